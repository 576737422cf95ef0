import PyProof.Rows.All
import Wide.All
import OpenK.AllK
import Wide.FinOn
import KE.KStateDown
import HandS.Base
import HandS.Call
import HandS.Words
import HandS.Head0
import HandS.Head1
import HandS.Head2
import HandS.ForMost
import HandS.Exc
import HandS.TryOnly
import HandS.ExcOwn
import HandS.WordsExc
import HandS.Wide
import HandS.EndBits
import HandS.Defaults
import HandS.IsInst
import HandS.Zip
import HandS.Flow
import HandS.TupAny
import HandS.TupMul
import HandS.WordsDict
import HandS.Text
import HandS.FStr
import KE.KUnpackStar
import HandS.Style
import HandS.More
import HandS.SortRule
import HandS.DictComp
import HandS.ExcInit
import HandS.ExcIs
import HandS.Small
import HandS.TryMany
import HandS.ExcField
import PyProof.ExcBaseAll.ZeroDivisionError
import PyProof.ExcBaseAll.ValueError
import PyProof.ExcBaseAll.LookupError
import KE.KExcIs
import HandS.NoneIn
import PyProof.ReprRoads
import HandS.Iter
import KE.KDictZip
import HandS.ListItems
import HandS.Set
import HandS.SetBool
import HandS.Deep
import HandS.Rev
import KE.KEqNest
import PyProof.NeKinds
import KE.KRevSl
import KE.GoesEnum
import HandS.SortInts
import HandS.Finally
import HandS.Conv
import PyProof.Rows.SortShellAny
import HandS.ExcValue
import PyProof.CallFns
import PyProof.ReprLen
import PySem.Challenge.RW_firmlay_k01_refusals
set_option Elab.async false
set_option linter.all false
set_option maxRecDepth 100000
set_option maxHeartbeats 8000000
set_option exponentiation.threshold 300001
namespace Kf
open PySem PySem.W PySem.Calls PyProof.Rows L2
abbrev R : OpenRow := OpenLaw.row PySem.Challenge.rw_firmlay_k01_refusals
def T (i : Nat) : Stmt := PySem.Challenge.pw_firmlay_k01_refusals.main.body.getD i (.Pass ⟨0, 0, 0, 0⟩)
def Cu:Stmt→List Stmt
 | .ClassDef _ _ _ b ..=>b
 | _=>[]
def C (i k:Nat):Stmt:=(Cu (T i)).getD k (.Pass ⟨0,0,0,0⟩)
abbrev i (n:Int):Value:=.int n 0
abbrev r (a:Nat):Value:=.ref a
abbrev fo (n q:String) (s:Stmt) (d k m:Value) (c:Nat):Obj:={ cls:=.type "function",data:=.func { name:=n,qualname:=q,params:=defArgs s,body:=.stmts (defBody s),scope:=defScope s,globals:=3,closure:=[],defaults:=d,kwdefaults:=k,pyModule:=m,code:=.ref c } }
abbrev cd (n q:String) (a:Nat) (l:List Value):Obj:={ cls:=.type "code",data:=.fields (List.toArray (.str n a :: .str q (a+1) :: .str "/claim/cut.py" (a+2) :: l)) }
abbrev e (P:Params) (x:String) (n:Nat) (v:Value):DictEntry:=⟨PyData.keyHash P (Str.ofString x),.str (Str.ofString x) n,v⟩
def K (P:Params):Frag :=
 (nat_lit 2,{ cls:=.none,data:=.dict #[e P "type.__subclasses__.ZeroDivisionError.0" 371 (.int 149 0),e P "type.__subclasses__.ZeroDivisionError.n" 372 (.int 1 0),e P "type.__subclasses__.KeyError.0" 400 (.int 169 0),e P "type.__subclasses__.KeyError.n" 401 (.int 1 0)] 4 }) ::
 (nat_lit 3,{ cls:=.type "dict",data:=.dict #[e P "__name__" 165 (.str "law_firmlay_k01_refusals" 431),e P "__doc__" 166 (.none),e P "__package__" 167 (.none),e P "__loader__" 168 (.builtin "__main__.__loader__#opaque"),e P "__spec__" 169 (.none),e P "__annotations__" 170 (.ref 6),e P "__builtins__" 171 (.ref 4),e P "__file__" 173 (.str "/claim/cut.py" 172),e P "__cached__" 174 (.none),e P "LayError" 206 (.ref 24),e P "BadText" 231 (.ref 44),e P "NoSaying" 256 (.ref 63),e P "Clash" 281 (.ref 82),e P "TooMany" 306 (.ref 101),e P "Held" 322 (.ref 113),e P "Over" 338 (.ref 125),e P "NoRow" 354 (.ref 137),e P "Nought" 374 (.ref 149),e P "NoSpot" 403 (.ref 169),e P "NoLabel" 430 (.ref 189),e P "_law_feed" 442 (.ref 199),e P "_law_draw" 452 (.ref 206),e P "_law_thing" 460 (.ref 213),e P "_law_kinds" 469 (.ref 220),e P "_law_due" 475 (.ref 225),e P "_law_made" 484 (.ref 232),e P "_law_taken" 493 (.ref 239),e P "law" 506 (.ref 246)] 28 }) ::
 (nat_lit 23,{ cls:=.type "dict",data:=.dict #[e P "__module__" 196 (.str "firmlay.errors" 187),e P "__firstlineno__" 200 (.int 2 199),e P "__static_attributes__" 201 (.ref 22),e P "__weakref__" 203 (.ref 25),e P "__doc__" 204 (.none)] 3 }) ::
 (nat_lit 24,{ cls:=.type "type",data:=.cls { name:="LayError",bases:=[.type "ValueError"],mro:=[.ref 24,.type "ValueError",.type "Exception",.type "BaseException",.type "object"],ns:=23,qualname:="LayError",subclasses:=[.ref 44,.ref 63,.ref 82,.ref 101,.ref 113,.ref 125,.ref 137] },slots:=#[some (.ref 15),none,some (.str "LayError" 189),some (.str "LayError" 197),some (.builtin "ValueError.__new__"),some (.bool true)] }) ::
 (nat_lit 40,cd "__init__" "BadText.__init__" 219 [i 6,i 2,i 0,i 0,i 3,r 35,.bool true,i 181,r 36,.none,r 37,r 38,r 39,i 224,i 6,.str "/claim/cut.py" 225]) ::
 (nat_lit 41,fo "__init__" "BadText.__init__" (C 2 0) .none .none (.str "firmlay.errors" 187) 40) ::
 (nat_lit 43,{ cls:=.type "dict",data:=.dict #[e P "__module__" 214 (.str "firmlay.errors" 187),e P "__firstlineno__" 218 (.int 4 217),e P "__init__" 226 (.ref 41),e P "__static_attributes__" 228 (.ref 42),e P "__doc__" 229 (.none)] 2 }) ::
 (nat_lit 44,{ cls:=.type "type",data:=.cls { name:="BadText",bases:=[.ref 24],mro:=[.ref 44,.ref 24,.type "ValueError",.type "Exception",.type "BaseException",.type "object"],ns:=43,qualname:="BadText" },slots:=#[some (.ref 28),none,some (.str "BadText" 207),some (.str "BadText" 215),some (.builtin "ValueError.__new__"),some (.bool true)] }) ::
 (nat_lit 59,cd "__init__" "NoSaying.__init__" 244 [i 10,i 2,i 0,i 0,i 3,r 54,.bool true,i 181,r 55,.none,r 56,r 57,r 58,i 249,i 10,.str "/claim/cut.py" 250]) ::
 (nat_lit 60,fo "__init__" "NoSaying.__init__" (C 3 0) .none .none (.str "firmlay.errors" 187) 59) ::
 (nat_lit 62,{ cls:=.type "dict",data:=.dict #[e P "__module__" 239 (.str "firmlay.errors" 187),e P "__firstlineno__" 243 (.int 8 242),e P "__init__" 251 (.ref 60),e P "__static_attributes__" 253 (.ref 61),e P "__doc__" 254 (.none)] 2 }) ::
 (nat_lit 63,{ cls:=.type "type",data:=.cls { name:="NoSaying",bases:=[.ref 24],mro:=[.ref 63,.ref 24,.type "ValueError",.type "Exception",.type "BaseException",.type "object"],ns:=62,qualname:="NoSaying" },slots:=#[some (.ref 47),none,some (.str "NoSaying" 232),some (.str "NoSaying" 240),some (.builtin "ValueError.__new__"),some (.bool true)] }) ::
 (nat_lit 78,cd "__init__" "Clash.__init__" 269 [i 14,i 2,i 0,i 0,i 3,r 73,.bool true,i 181,r 74,.none,r 75,r 76,r 77,i 274,i 14,.str "/claim/cut.py" 275]) ::
 (nat_lit 79,fo "__init__" "Clash.__init__" (C 4 0) .none .none (.str "firmlay.errors" 187) 78) ::
 (nat_lit 81,{ cls:=.type "dict",data:=.dict #[e P "__module__" 264 (.str "firmlay.errors" 187),e P "__firstlineno__" 268 (.int 12 267),e P "__init__" 276 (.ref 79),e P "__static_attributes__" 278 (.ref 80),e P "__doc__" 279 (.none)] 2 }) ::
 (nat_lit 82,{ cls:=.type "type",data:=.cls { name:="Clash",bases:=[.ref 24],mro:=[.ref 82,.ref 24,.type "ValueError",.type "Exception",.type "BaseException",.type "object"],ns:=81,qualname:="Clash" },slots:=#[some (.ref 66),none,some (.str "Clash" 257),some (.str "Clash" 265),some (.builtin "ValueError.__new__"),some (.bool true)] }) ::
 (nat_lit 97,cd "__init__" "TooMany.__init__" 294 [i 18,i 2,i 0,i 0,i 3,r 92,.bool true,i 181,r 93,.none,r 94,r 95,r 96,i 299,i 18,.str "/claim/cut.py" 300]) ::
 (nat_lit 98,fo "__init__" "TooMany.__init__" (C 5 0) .none .none (.str "firmlay.errors" 187) 97) ::
 (nat_lit 100,{ cls:=.type "dict",data:=.dict #[e P "__module__" 289 (.str "firmlay.errors" 187),e P "__firstlineno__" 293 (.int 16 292),e P "__init__" 301 (.ref 98),e P "__static_attributes__" 303 (.ref 99),e P "__doc__" 304 (.none)] 2 }) ::
 (nat_lit 101,{ cls:=.type "type",data:=.cls { name:="TooMany",bases:=[.ref 24],mro:=[.ref 101,.ref 24,.type "ValueError",.type "Exception",.type "BaseException",.type "object"],ns:=100,qualname:="TooMany" },slots:=#[some (.ref 85),none,some (.str "TooMany" 282),some (.str "TooMany" 290),some (.builtin "ValueError.__new__"),some (.bool true)] }) ::
 (nat_lit 112,{ cls:=.type "dict",data:=.dict #[e P "__module__" 314 (.str "firmlay.errors" 187),e P "__firstlineno__" 318 (.int 20 317),e P "__static_attributes__" 319 (.ref 111),e P "__doc__" 320 (.none)] 2 }) ::
 (nat_lit 113,{ cls:=.type "type",data:=.cls { name:="Held",bases:=[.ref 24],mro:=[.ref 113,.ref 24,.type "ValueError",.type "Exception",.type "BaseException",.type "object"],ns:=112,qualname:="Held" },slots:=#[some (.ref 104),none,some (.str "Held" 307),some (.str "Held" 315),some (.builtin "ValueError.__new__"),some (.bool true)] }) ::
 (nat_lit 124,{ cls:=.type "dict",data:=.dict #[e P "__module__" 330 (.str "firmlay.errors" 187),e P "__firstlineno__" 334 (.int 22 333),e P "__static_attributes__" 335 (.ref 123),e P "__doc__" 336 (.none)] 2 }) ::
 (nat_lit 125,{ cls:=.type "type",data:=.cls { name:="Over",bases:=[.ref 24],mro:=[.ref 125,.ref 24,.type "ValueError",.type "Exception",.type "BaseException",.type "object"],ns:=124,qualname:="Over" },slots:=#[some (.ref 116),none,some (.str "Over" 323),some (.str "Over" 331),some (.builtin "ValueError.__new__"),some (.bool true)] }) ::
 (nat_lit 136,{ cls:=.type "dict",data:=.dict #[e P "__module__" 346 (.str "firmlay.errors" 187),e P "__firstlineno__" 350 (.int 24 349),e P "__static_attributes__" 351 (.ref 135),e P "__doc__" 352 (.none)] 2 }) ::
 (nat_lit 137,{ cls:=.type "type",data:=.cls { name:="NoRow",bases:=[.ref 24],mro:=[.ref 137,.ref 24,.type "ValueError",.type "Exception",.type "BaseException",.type "object"],ns:=136,qualname:="NoRow" },slots:=#[some (.ref 128),none,some (.str "NoRow" 339),some (.str "NoRow" 347),some (.builtin "ValueError.__new__"),some (.bool true)] }) ::
 (nat_lit 148,{ cls:=.type "dict",data:=.dict #[e P "__module__" 362 (.str "firmlay.errors" 187),e P "__firstlineno__" 366 (.int 26 365),e P "__static_attributes__" 367 (.ref 147),e P "__weakref__" 369 (.ref 150),e P "__doc__" 370 (.none)] 3 }) ::
 (nat_lit 149,{ cls:=.type "type",data:=.cls { name:="Nought",bases:=[.type "ZeroDivisionError"],mro:=[.ref 149,.type "ZeroDivisionError",.type "ArithmeticError",.type "Exception",.type "BaseException",.type "object"],ns:=148,qualname:="Nought" },slots:=#[some (.ref 140),none,some (.str "Nought" 355),some (.str "Nought" 363),some (.builtin "ZeroDivisionError.__new__"),some (.bool true)] }) ::
 (nat_lit 165,cd "__init__" "NoSpot.__init__" 387 [i 30,i 2,i 0,i 0,i 3,r 160,.bool true,i 181,r 161,.none,r 162,r 163,r 164,i 392,i 30,.str "/claim/cut.py" 393]) ::
 (nat_lit 166,fo "__init__" "NoSpot.__init__" (C 10 0) .none .none (.str "firmlay.errors" 187) 165) ::
 (nat_lit 168,{ cls:=.type "dict",data:=.dict #[e P "__module__" 382 (.str "firmlay.errors" 187),e P "__firstlineno__" 386 (.int 28 385),e P "__init__" 394 (.ref 166),e P "__static_attributes__" 396 (.ref 167),e P "__weakref__" 398 (.ref 170),e P "__doc__" 399 (.none)] 3 }) ::
 (nat_lit 169,{ cls:=.type "type",data:=.cls { name:="NoSpot",bases:=[.type "KeyError"],mro:=[.ref 169,.type "KeyError",.type "LookupError",.type "Exception",.type "BaseException",.type "object"],ns:=168,qualname:="NoSpot" },slots:=#[some (.ref 153),none,some (.str "NoSpot" 375),some (.str "NoSpot" 383),some (.builtin "LookupError.__new__"),some (.bool true)] }) ::
 (nat_lit 185,cd "__init__" "NoLabel.__init__" 416 [i 34,i 2,i 0,i 0,i 3,r 180,.bool true,i 181,r 181,.none,r 182,r 183,r 184,i 421,i 34,.str "/claim/cut.py" 422]) ::
 (nat_lit 186,fo "__init__" "NoLabel.__init__" (C 11 0) .none .none (.str "firmlay.errors" 187) 185) ::
 (nat_lit 188,{ cls:=.type "dict",data:=.dict #[e P "__module__" 411 (.str "firmlay.errors" 187),e P "__firstlineno__" 415 (.int 32 414),e P "__init__" 423 (.ref 186),e P "__static_attributes__" 425 (.ref 187),e P "__weakref__" 427 (.ref 190),e P "__doc__" 428 (.none)] 3 }) ::
 (nat_lit 189,{ cls:=.type "type",data:=.cls { name:="NoLabel",bases:=[.type "LookupError"],mro:=[.ref 189,.type "LookupError",.type "Exception",.type "BaseException",.type "object"],ns:=188,qualname:="NoLabel" },slots:=#[some (.ref 173),none,some (.str "NoLabel" 404),some (.str "NoLabel" 412),some (.builtin "LookupError.__new__"),some (.bool true)] }) ::
 (nat_lit 198,cd "_law_feed" "_law_feed" 433 [i 37,i 2,i 0,i 0,i 3,r 193,.bool true,i 181,r 194,.none,r 195,r 196,r 197,i 440,i 37,.str "/claim/cut.py" 441]) ::
 (nat_lit 199,fo "_law_feed" "_law_feed" (T 13) .none .none (.str "law_firmlay_k01_refusals" 431) 198) ::
 (nat_lit 205,cd "_law_draw" "_law_draw" 443 [i 45,i 2,i 0,i 0,i 3,r 200,.bool true,i 181,r 201,.none,r 202,r 203,r 204,i 450,i 45,.str "/claim/cut.py" 451]) ::
 (nat_lit 206,fo "_law_draw" "_law_draw" (T 14) .none .none (.str "law_firmlay_k01_refusals" 431) 205) ::
 (nat_lit 212,cd "_law_thing" "_law_thing" 453 [i 54,i 1,i 0,i 0,i 3,r 207,.bool true,i 181,r 208,.none,r 209,r 210,r 211,i 458,i 54,.str "/claim/cut.py" 459]) ::
 (nat_lit 213,fo "_law_thing" "_law_thing" (T 15) .none .none (.str "law_firmlay_k01_refusals" 431) 212) ::
 (nat_lit 219,cd "_law_kinds" "_law_kinds" 461 [i 57,i 1,i 0,i 0,i 3,r 214,.bool true,i 181,r 215,.none,r 216,r 217,r 218,i 467,i 57,.str "/claim/cut.py" 468]) ::
 (nat_lit 220,fo "_law_kinds" "_law_kinds" (T 16) .none .none (.str "law_firmlay_k01_refusals" 431) 219) ::
 (nat_lit 224,cd "_law_due" "_law_due" 470 [i 63,i 1,i 0,i 0,i 3,r 221,.bool true,i 181,r 222,.none,.none,.none,r 223,i 473,i 63,.str "/claim/cut.py" 474]) ::
 (nat_lit 225,fo "_law_due" "_law_due" (T 17) .none .none (.str "law_firmlay_k01_refusals" 431) 224) ::
 (nat_lit 231,cd "_law_made" "_law_made" 476 [i 66,i 2,i 0,i 0,i 3,r 226,.bool true,i 181,r 227,.none,r 228,r 229,r 230,i 482,i 66,.str "/claim/cut.py" 483]) ::
 (nat_lit 232,fo "_law_made" "_law_made" (T 18) .none .none (.str "law_firmlay_k01_refusals" 431) 231) ::
 (nat_lit 238,cd "_law_taken" "_law_taken" 485 [i 86,i 1,i 0,i 0,i 3,r 233,.bool true,i 181,r 234,.none,r 235,r 236,r 237,i 491,i 86,.str "/claim/cut.py" 492]) ::
 (nat_lit 239,fo "_law_taken" "_law_taken" (T 19) .none .none (.str "law_firmlay_k01_refusals" 431) 238) ::
 (nat_lit 245,cd "law" "law" 494 [i 101,i 1,i 0,i 0,i 3,r 240,.bool true,i 181,r 241,.none,r 242,r 243,r 244,i 504,i 101,.str "/claim/cut.py" 505]) ::
 (nat_lit 246,fo "law" "law" (T 20) .none .none (.str "law_firmlay_k01_refusals" 431) 245) :: []
def as:List Addr:=nat_lit 2 :: nat_lit 3 :: nat_lit 23 :: nat_lit 24 :: nat_lit 40 :: nat_lit 41 :: nat_lit 43 :: nat_lit 44 :: nat_lit 59 :: nat_lit 60 :: nat_lit 62 :: nat_lit 63 :: nat_lit 78 :: nat_lit 79 :: nat_lit 81 :: nat_lit 82 :: nat_lit 97 :: nat_lit 98 :: nat_lit 100 :: nat_lit 101 :: nat_lit 112 :: nat_lit 113 :: nat_lit 124 :: nat_lit 125 :: nat_lit 136 :: nat_lit 137 :: nat_lit 148 :: nat_lit 149 :: nat_lit 165 :: nat_lit 166 :: nat_lit 168 :: nat_lit 169 :: nat_lit 185 :: nat_lit 186 :: nat_lit 188 :: nat_lit 189 :: nat_lit 198 :: nat_lit 199 :: nat_lit 205 :: nat_lit 206 :: nat_lit 212 :: nat_lit 213 :: nat_lit 219 :: nat_lit 220 :: nat_lit 224 :: nat_lit 225 :: nat_lit 231 :: nat_lit 232 :: nat_lit 238 :: nat_lit 239 :: nat_lit 245 :: nat_lit 246 :: []
def n0:List PySem.Str:=["__name__","LayError","BadText","NoSaying","Clash","TooMany","Held","Over","NoRow","Nought","NoSpot","NoLabel","_law_feed","_law_draw","_law_thing","_law_kinds","_law_due","_law_made","_law_taken"]
def loose:List PySem.Str:=n0
def q:Program:=view R.prog [20]
theorem ek:∀ P,as=(K P).map (·.1):=fun _=>rfl
abbrev hk:Hook:=kHook K as ek
def d:DefRec:=⟨"law",defArgs (T 20),defBody (T 20),defScope (T 20),(HandSHeadRun.topDef R.prog 20).pos⟩
def ob (s:SharedT):List (Option Obj):=as.map (HandSHeadRun.getT s)
theorem Ax (s:SharedT):ob s=hk.obs s.abs:=List.map_congr_left fun a _=>HandSHeadRun.getT_eq s a
set_option maxHeartbeats 0 in
theorem run (w:World):HandSHeadRun.RunEq R q hk ob 2826 loose w:=by
 intro os
 kernel_rfl
end Kf
open PySem PySem.W PySem.Calls PyProof.Rows in
set_option maxHeartbeats 0 in
theorem kopf (walk : WalkO Kf.q Kf.loose (XL Kf.q []) (kHook Kf.K Kf.as Kf.ek).says (OpenLaw.row PySem.Challenge.rw_firmlay_k01_refusals).toRowW Kf.d [] fun f vs => PySem.call f vs) : PySem.Challenge.rw_firmlay_k01_refusals.Holds := by
 w_on; o_law
 refine HandSHeadRun.head_any (r:=Kf.R) (q:=Kf.q) (H:=Kf.hk) (ob:=Kf.ob) (M:=2826) (loose:=Kf.loose) (d:=Kf.d) (kwd:=[]) Kf.Ax (by kernel_rfl) (fun s=>by kernel_rfl) Kf.run (by kernel_rfl) (by kernel_rfl) (by kernel_rfl) (by rfl) (by first | assumption | decide +kernel) (by decide +kernel) ⟨rfl,rfl,rfl,rfl,rfl,by decide +kernel⟩ ?hw walk
 case hw=>w_witness2
namespace Mir
open PySem PySem.Spec PyProof.Rows L2
inductive D where
 | non | bl (b:Bool) | int (i:Int) | str (x:Str) | tup (xs:List D) | lst (xs:List D) | dic (ks:List Key) (xs:List D) | scr (ns:List Int) | exn (c:Str) (ns:List Str) (xs:List D) | ob (n:Nat)
inductive Ob where
 | ins (c:Str) (fs:List (Str × D)) | lst (xs:List D) | dct (kvs:List (Key × D)) | lkd (kvs:List (Key × D))
inductive T where
 | val (d:D) | own (xs:List D) | owd (kvs:List (Key × D)) | sto (os:List Ob)
abbrev Sg:=List (Option T)
inductive R (α:Type) where
 | ok (a:α) (s:Sg) | exc (c:Str) (fs:List (Str × D)) (s:Sg) | fail
abbrev M (α:Type):=Sg→R α
def T.owned:T→Bool
 | .val _=>false
 | _=>true
structure Wd where
 F:Addr→Prop
 O:Addr→Prop
 H:Hp
 P:Nat→Option Addr
 Z:Option (Nat→Option Addr)
structure Wd.Ok (w:Wd):Prop where
 apart:∀ a,w.F a→¬ w.O a
 mu:∀ a,w.O a→Mut (w.H a)
 trk:∀ a,w.F a→∃ o,w.H a=some o
 inj:∀ n m a,w.P n=some a→w.P m=some a→n=m
 fix:∀ p,w.Z=some p→w.P=p
def KL (K:PySem.W.Frag) (a:Addr) (xs:List V):Prop:=∃ (o:Obj) (its:Array Value) (n:Nat),K.lookup a=some o∧o.cls = .type "list"∧o.dict=none∧o.data = .seq its n∧its.size≤sizeLine∧Vals xs its.toList
def j8 (a C:Addr) (d:Option Addr):HO:=.ext fun h=>∃ o vs,h.get? a=some o∧(o.cls = .ref C∧o.dict=d)∧o.data = .fields vs
mutual
def Rep (K:PySem.W.Frag) (w:Wd):D→V→Prop
 | .non,v=>v = .non
 | .bl b,v=>v = .bl b
 | .int i,v=>v = .int i
 | .str x,v=>v = .str x
 | .tup ds,v=>∃ a vs,v = .ref a∧SqT K w.H a vs∧ak K w ds vs
 | .lst ds,v=>∃ a vs,v = .ref a∧w.H a=some (.lst vs)∧w.F a∧ak K w ds vs
 | .dic ks ds,v=>∃ a vs,v = .ref a∧Rd w.H a (.dK (ks.zip vs))∧w.F a∧ks.length=ds.length∧ak K w ds vs
 | .exn c ns ds,v=>∃ (a C:Addr) (d:Option Addr) (vs:List V),v = .ref a∧PySem.W.nsIn K mainGlobals c=some (some (.ref C))∧w.H a=some (j8 a C d)∧w.F a∧ns.length=ds.length∧ak K w ds vs∧((ns=[]∧d=none)∨(ns≠[]∧∃ x,d=some x∧w.H x=some (.xd (ns.zip vs))∧w.F x))
 | .scr ns,v=>∃ a,v = .ref a∧((Rd w.H a (.lst (ns.map V.int))∧w.F a)∨KL K a (ns.map V.int))
 | .ob n,v=>∃ a,v = .ref a∧w.P n=some a
def ak (K:PySem.W.Frag) (w:Wd):List D→List V→Prop
 | [],vs=>vs=[]
 | d :: ds,vs=>∃ v r,vs=v :: r∧Rep K w d v∧ak K w ds r
end
structure Keep (w w' : Wd):Prop where
 kept:∀ b o,w.H b=some o→¬ w.O b→w'.H b=some o
 fr:∀ b,w.F b→w'.F b
 pr:∀ n a,w.P n=some a→w'.P n=some a
structure Gr (w w' : Wd):Prop extends Keep w w' where
 back:∀ b,(w'.F b∨w'.O b)→w.F b∨w.O b∨w.H b=none
 there:∀ b o,w.H b=some o→∃ o',w'.H b=some o'
 zz:w'.Z=w.Z
theorem Wd.Ok.rd {w:Wd} (ok:w.Ok) {a:Addr} {o:HO} (h:w.H a=some o) (n:¬ Mut (some o)):¬ w.O a:=fun z=>by
 have:=ok.mu a z
 rw [h] at this
 exact n this
theorem Keep.BZ {w w' : Wd} (k:Keep w w') (ok:w.Ok) {a:Addr} {o:HO} (f:w.F a) (h:Rd w.H a o):Rd w'.H a o:=by
 rcases h with h | ⟨u,h⟩
 ·exact .inl (k.kept a _ h (ok.apart a f))
 ·exact .inr ⟨u,k.kept a _ h (ok.apart a f)⟩
theorem Keep.yj {K:PySem.W.Frag} {w w' : Wd} (k:Keep w w') (ok:w.Ok) {a:Addr} {vs:List V} (h:SqT K w.H a vs):SqT K w'.H a vs:=by
 rcases h with (h | ⟨u,h⟩) | h
 ·exact .inl (.inl (k.kept a _ h (ok.rd h fun z=>z)))
 ·exact .inl (.inr ⟨u,k.kept a _ h (ok.rd h fun z=>z)⟩)
 ·exact .inr h
mutual
theorem Rep.mono {K:PySem.W.Frag} {w w' : Wd} (k:Keep w w') (ok:w.Ok):∀ (d:D) (v:V),Rep K w d v→Rep K w' d v
 | .non,v,h=>h
 | .bl b,v,h=>h
 | .int i,v,h=>h
 | .str x,v,h=>h
 | .tup ds,v,h=>by
  unfold Rep at h ⊢
  obtain ⟨a,vs,e,s,r⟩:=h
  exact ⟨a,vs,e,k.yj ok s,ak.mono k ok ds vs r⟩
 | .lst ds,v,h=>by
  unfold Rep at h ⊢
  obtain ⟨a,vs,e,s,f,r⟩:=h
  exact ⟨a,vs,e,k.kept a _ s (ok.apart a f),k.fr a f,ak.mono k ok ds vs r⟩
 | .dic ks ds,v,h=>by
  unfold Rep at h ⊢
  obtain ⟨a,vs,e,s,f,l,r⟩:=h
  exact ⟨a,vs,e,k.BZ ok f s,k.fr a f,l,ak.mono k ok ds vs r⟩
 | .exn c ns ds,v,h=>by
  unfold Rep at h ⊢
  obtain ⟨a,C,d,vs,e,hc,s,f,l,r,q⟩:=h
  refine ⟨a,C,d,vs,e,hc,k.kept a _ s (ok.apart a f),k.fr a f,l,ak.mono k ok ds vs r,?_⟩
  rcases q with q | ⟨n,x,ex,hx,fx⟩
  ·exact .inl q
  ·exact .inr ⟨n,x,ex,k.kept x _ hx (ok.apart x fx),k.fr x fx⟩
 | .scr ns,v,h=>by
  unfold Rep at h ⊢
  obtain ⟨a,e,q⟩:=h
  exact ⟨a,e,q.elim (fun z=>.inl ⟨k.BZ ok z.2 z.1,k.fr a z.2⟩) .inr⟩
 | .ob n,v,h=>by
  unfold Rep at h ⊢
  obtain ⟨a,e,q⟩:=h
  exact ⟨a,e,k.pr n a q⟩
theorem ak.mono {K:PySem.W.Frag} {w w' : Wd} (k:Keep w w') (ok:w.Ok):∀ (ds:List D) (vs:List V),ak K w ds vs→ak K w' ds vs
 | [],vs,h=>by unfold ak at h ⊢; exact h
 | d :: ds,vs,h=>by
  unfold ak at h ⊢
  obtain ⟨v,r,e,h1,h2⟩:=h
  exact ⟨v,r,e,Rep.mono k ok d v h1,ak.mono k ok ds r h2⟩
end
theorem Gr.refl (w:Wd):Gr w w:=⟨⟨fun _ _ h _=>h,fun _ h=>h,fun _ _ h=>h⟩,fun b h=>h.elim .inl fun z=>.inr (.inl z),fun b o h=>⟨o,h⟩,rfl⟩
theorem Gr.trans {w w1 w2:Wd} (a:Gr w w1) (o1:w1.Ok) (b:Gr w1 w2):Gr w w2 where
 kept:=fun c o h n=>b.kept c o (a.kept c o h n) fun z=>by
  rcases a.back c (.inr z) with f | f | f
  ·exact o1.apart c (a.fr c f) z
  ·exact n f
  ·rw [h] at f; cases f
 fr:=fun c h=>b.fr c (a.fr c h)
 pr:=fun n c h=>b.pr n c (a.pr n c h)
 back:=fun c h=>by
  rcases b.back c h with f | f | f
  ·exact a.back c (.inl f)
  ·exact a.back c (.inr f)
  ·cases q:w.H c with
   | none=>exact .inr (.inr rfl)
   | some o =>
    obtain ⟨o',e⟩:=a.there c o q
    rw [e] at f; cases f
 there:=fun c o h=>by
  obtain ⟨o',e⟩:=a.there c o h
  exact b.there c o' e
 zz:=b.zz.trans a.zz
theorem Gr.fresh {w w1:Wd} (a:Gr w w1) {p:Addr} (h:w1.H p=none):w.H p=none:=by
 cases q:w.H p with
 | none=>rfl
 | some o =>
  obtain ⟨o',e⟩:=a.there p o q
  rw [e] at h; cases h
def j9 (K:PySem.W.Frag) (w:Wd):Ob→Addr→Prop
 | .ins c fs,a=>∃ (C dx:Addr) (vs:List V),PySem.W.nsIn K mainGlobals c=some (some (.ref C))∧w.H a=some (.ins C dx ((fs.map (·.1)).zip vs))∧ak K w (fs.map (·.2)) vs
 | .lst xs,a=>∃ vs,w.H a=some (.lst vs)∧ak K w xs vs
 | .dct kvs,a=>∃ vs,w.H a=some (.dK ((kvs.map (·.1)).zip vs))∧ak K w (kvs.map (·.2)) vs
 | .lkd kvs,a=>∃ vs od,w.H a=some (.frz od (.dK ((kvs.map (·.1)).zip vs)))∧ak K w (kvs.map (·.2)) vs
def Ob.lk:Ob→Bool
 | .lkd _=>true
 | _=>false
def iH (w:Wd) (o:Ob) (a:Addr):Prop:=match o.lk with
 | true=>¬ w.F a∧¬ w.O a
 | false=>w.O a
def Ca (K:PySem.W.Frag) (w:Wd) (os:List Ob):Prop:=∀ (n:Nat) (o:Ob),os[n]? = some o→∃ a,w.P n=some a∧iH w o a∧j9 K w o a
theorem iH.mk {w:Wd} {o:Ob} {a:Addr} (h:w.O a) (e:o.lk=false:=by rfl):iH w o a:=by unfold iH; rw [e]; exact h
theorem iH.ow {w:Wd} {o:Ob} {a:Addr} (h:iH w o a) (e:o.lk=false:=by rfl):w.O a:=by unfold iH at h; rw [e] at h; exact h
theorem iH.no {w:Wd} {o:Ob} {a:Addr} (h:iH w o a) (e:o.lk=true:=by rfl):¬ w.F a∧¬ w.O a:=by unfold iH at h; rw [e] at h; exact h
theorem iH.mono {K:PySem.W.Frag} {w w' : Wd} {o:Ob} {a:Addr} (h:iH w o a) (r:j9 K w o a) (ho:o.lk=false→w.O a→w'.O a) (hb:∀ od u,w.H a=some (.frz od u)→w'.F a∨w'.O a→w.F a∨w.O a):iH w' o a:=by
 cases o with
 | lkd kvs =>
  obtain ⟨vs,od,e,_⟩:=r
  have h' : ¬ w.F a∧¬ w.O a:=h
  exact ⟨fun f=>(hb od _ e (.inl f)).elim h'.1 h'.2,fun f=>(hb od _ e (.inr f)).elim h'.1 h'.2⟩
 | ins c fs=>exact ho rfl h
 | lst xs=>exact ho rfl h
 | dct kvs=>exact ho rfl h
theorem iH.at {w w' : Wd} (k:Keep w w') {o:Ob} {a:Addr} {u:HO} (h:iH w o a) (hu:w.H a=some u) (he:o.lk=false→w.O a→w'.H a=w.H a):w'.H a=w.H a:=by
 cases e:o.lk with
 | true=>rw [hu]; exact k.kept a u hu (h.no e).2
 | false=>exact he e (h.ow e)
def aY (K:PySem.W.Frag) (w:Wd):T→V→Prop
 | .sto os,v=>v = .non∧w.Z=none∧(∀ n,os.length≤n→w.P n=none)∧Ca K w os
 | .val d,v=>Rep K w d v
 | .own xs,v=>∃ a vs,v = .ref a∧w.H a=some (.lst vs)∧w.O a∧ak K w xs vs
 | .owd kvs,v=>∃ a vs,v = .ref a∧w.H a=some (.dK ((kvs.map (·.1)).zip vs))∧w.O a∧ak K w (kvs.map (·.2)) vs
structure SR (K:PySem.W.Frag) (w:Wd) (sm:Sg) (σ:L2.St):Prop where
 ok:w.Ok
 len:sm.length=σ.length
 slot:∀ (i:Nat) (t:T),sm[i]? = some (some t)→∃ v,σ[i]? = some (some v)∧aY K w t v
 dis:∀ (i j:Nat) (t u:T) (v:V),i≠j→sm[i]? = some (some t)→sm[j]? = some (some u)→t.owned=true→u.owned=true→σ[i]? = some (some v)→σ[j]?≠some (some v)
 sep:∀ (i k:Nat) (t:T) (os:List Ob) (a:Addr) (n:Nat),sm[i]? = some (some t)→t.owned=true→sm[k]? = some (some (.sto os))→σ[i]? = some (some (.ref a))→n < os.length→w.P n≠some a
theorem j9.mono {K:PySem.W.Frag} {w w' : Wd} (k:Keep w w') (ok:w.Ok) {o:Ob} {a:Addr} (h:j9 K w o a) (e:w'.H a=w.H a):j9 K w' o a:=by
 cases o with
 | ins c fs=>obtain ⟨C,dx,vs,h1,h2,h3⟩:=h; exact ⟨C,dx,vs,h1,e.trans h2,ak.mono k ok _ _ h3⟩
 | lst xs=>obtain ⟨vs,h2,h3⟩:=h; exact ⟨vs,e.trans h2,ak.mono k ok _ _ h3⟩
 | dct kvs=>obtain ⟨vs,h2,h3⟩:=h; exact ⟨vs,e.trans h2,ak.mono k ok _ _ h3⟩
 | lkd kvs=>obtain ⟨vs,od,h2,h3⟩:=h; exact ⟨vs,od,e.trans h2,ak.mono k ok _ _ h3⟩
theorem j9.there {K:PySem.W.Frag} {w:Wd} {o:Ob} {a:Addr} (h:j9 K w o a):∃ u,w.H a=some u:=by
 cases o with
 | ins c fs=>obtain ⟨C,dx,vs,h1,h2,h3⟩:=h; exact ⟨_,h2⟩
 | lst xs=>obtain ⟨vs,h2,h3⟩:=h; exact ⟨_,h2⟩
 | dct kvs=>obtain ⟨vs,h2,h3⟩:=h; exact ⟨_,h2⟩
 | lkd kvs=>obtain ⟨vs,od,h2,h3⟩:=h; exact ⟨_,h2⟩
structure Al (w w' : Wd):Prop where
 ext:∀ b o,w.H b=some o→w'.H b=some o
 fr:∀ b,w.F b→w'.F b
 own:w'.O=w.O
 pr:w'.P=w.P
 zz:w'.Z=w.Z
 back:∀ b,w'.F b→w.F b∨w.H b=none
 ok:w'.Ok
theorem Al.keep {w w' : Wd} (a:Al w w'):Keep w w':=⟨fun b o h _=>a.ext b o h,a.fr,fun n c h=>by rw [a.pr]; exact h⟩
theorem Al.gr {w w' : Wd} (a:Al w w'):Gr w w':=⟨a.keep,fun b h=>h.elim (fun z=>(a.back b z).elim .inl fun q=>.inr (.inr q)) fun z=>.inr (.inl (by rw [a.own] at z; exact z)),fun b o h=>⟨o,a.ext b o h⟩,a.zz⟩
theorem Al.refl {w:Wd} (ok:w.Ok):Al w w:=⟨fun _ _ h=>h,fun _ h=>h,rfl,rfl,rfl,fun _ h=>.inl h,ok⟩
theorem Al.trans {w w1 w2:Wd} (a:Al w w1) (b:Al w1 w2):Al w w2:=⟨fun c o h=>b.ext c o (a.ext c o h),fun c h=>b.fr c (a.fr c h),b.own.trans a.own,b.pr.trans a.pr,b.zz.trans a.zz,fun c h=>by
 rcases b.back c h with f | f
 ·exact a.back c f
 ·exact .inr (a.gr.fresh f),b.ok⟩
theorem Al.Cv {K:PySem.W.Frag} {w w' : Wd} (a:Al w w') (ok:w.Ok) {t:T} {v:V} (h:aY K w t v):aY K w' t v:=by
 cases t with
 | val d=>exact Rep.mono a.keep ok d v h
 | own xs =>
  obtain ⟨p,vs,e,h1,h2,h3⟩:=h
  exact ⟨p,vs,e,a.ext _ _ h1,by rw [a.own]; exact h2,ak.mono a.keep ok _ _ h3⟩
 | owd kvs =>
  obtain ⟨p,vs,e,h1,h2,h3⟩:=h
  exact ⟨p,vs,e,a.ext _ _ h1,by rw [a.own]; exact h2,ak.mono a.keep ok _ _ h3⟩
 | sto os =>
  obtain ⟨e,hz,hn,h1⟩:=h
  exact ⟨e,by rw [a.zz]; exact hz,by rw [a.pr]; exact hn,fun n o q=>by
   obtain ⟨p,h2,h3,h4⟩:=h1 n o q
   obtain ⟨u,hu⟩:=h4.there
   exact ⟨p,by rw [a.pr]; exact h2,h3.mono h4 (fun _ z=>by rw [a.own]; exact z) (fun _ _ _ z=>z.elim (fun f=>(a.back p f).elim .inl fun q=>by rw [hu] at q; cases q) fun f=>.inr (by rw [a.own] at f; exact f)),h4.mono a.keep ok (by rw [hu]; exact a.ext _ _ hu)⟩⟩
theorem SR.al {K:PySem.W.Frag} {w w' : Wd} {sm:Sg} {σ:L2.St} (s:SR K w sm σ) (a:Al w w'):SR K w' sm σ :=
 ⟨a.ok,s.len,fun i t h=>by
  obtain ⟨v,e,r⟩:=s.slot i t h
  exact ⟨v,e,a.Cv s.ok r⟩,s.dis,by rw [a.pr]; exact s.sep⟩
theorem Al.tup {w:Wd} (ok:w.Ok) {p:Addr} (h:w.H p=none) (o:HO):Al w { w with H:=upd w.H p o } where
  ext:=fun b u e=>by show upd w.H p o b=_; rw [upd_ne (ne_of_none e h)]; exact e
  fr:=fun _ h=>h
  own:=rfl
  pr:=rfl
  zz:=rfl
  back:=fun _ h=>.inl h
  ok := ⟨ok.apart, fun a z => by
      show Mut (upd w.H p o a)
      have m:=ok.mu a z
      rw [upd_ne (fun e=>by subst e; rw [h] at m; exact m)]; exact m,fun a z=>by
      obtain ⟨u,e⟩:=ok.trk a z
      exact ⟨u,by show upd w.H p o a=_; rw [upd_ne (ne_of_none e h)]; exact e⟩,ok.inj,ok.fix⟩
theorem Al.frozen {w:Wd} (ok:w.Ok) {p:Addr} (h:w.H p=none) (o:HO):Al w { w with H:=upd w.H p o,F:=fun b=>w.F b∨b=p } where
  ext:=fun b u e=>by show upd w.H p o b=_; rw [upd_ne (ne_of_none e h)]; exact e
  fr:=fun _ h=>.inl h
  own:=rfl
  pr:=rfl
  zz:=rfl
  back:=fun b z=>z.elim .inl fun e=>.inr (by rw [e]; exact h)
  ok := ⟨fun a z q => z.elim (fun f => ok.apart a f q) fun e => by
      have m:=ok.mu a q
      rw [e,h] at m; exact m,fun a z=>by
      show Mut (upd w.H p o a)
      have m:=ok.mu a z
      rw [upd_ne (fun e=>by subst e; rw [h] at m; exact m)]; exact m,fun a z=>by
      rcases z with z | z
      · obtain ⟨u,e⟩:=ok.trk a z
        exact ⟨u,by show upd w.H p o a=_; rw [upd_ne (ne_of_none e h)]; exact e⟩
      · exact ⟨o,by rw [z]; exact upd_same⟩,ok.inj,ok.fix⟩
end Mir
namespace Mir
open PySem PySem.Spec PyProof.Rows L2
section
variable {α β:Type}
def ret (a:α):M α:=fun s=>.ok a s
def bK (r:R α) (f:α→M β):R β:=match r with
 | .ok a s'=>f a s'
 | .exc c x s'=>.exc c x s'
 | .fail=>.fail
def bnd (m:M α) (f:α→M β):M β:=fun s=>bK (m s) f
def opt (o:Option α):M α:=fun s=>match o with
 | some a=>.ok a s
 | none=>.fail
def stuck:M α:=fun _=>.fail
end
inductive Fl where
 | nx | bk | ct | rt (t:T)
def XR (K:PySem.W.Frag) (mg:Str→Option Value) (w:Wd) (c:Str) (fs:List (Str × D)) (cls:Value) (d:Option Addr):Prop :=
 (∃ C,PySem.W.nsIn K mainGlobals c=some (some (.ref C))∧cls = .ref C)∧((fs=[]∧d=none)∨(fs≠[]∧∃ a vs,d=some a∧w.H a=some (.xd ((fs.map (·.1)).zip vs))∧w.F a∧ak K w (fs.map (·.2)) vs))
structure Va where
 s_0:Shared
 H_0:Hp
 env:Env
 outer:List Env
 ex:List Addr
 fn:Str→Bool
abbrev Cx.va (X:Cx) (v:Va) (pn:List (Addr × Obj)) (xe:Value→Shared→Prop):Cx:={ X with s_0:=v.s_0,H_0:=v.H_0,env:=v.env,outer:=v.outer,ex:=v.ex,fn:=v.fn,pn:=pn,xe:=xe }
structure Cf where
 X:Cx
 I:Type
 v:I→Va
abbrev Cf.at (C:Cf) (j:C.I) (pn:List (Addr × Obj)) (xe:Value→Shared→Prop):Cx:=Cx.va C.X (C.v j) pn xe
abbrev Cf.K (C:Cf):=C.X.K
abbrev Cf.mg (C:Cf):=C.X.mg
abbrev Cf.N (C:Cf):=C.X.N
abbrev Cf.A (C:Cf):=C.X.A
abbrev Cf.calm (C:Cf):=C.X.calm
abbrev Cf.env (C:Cf) (j:C.I):=(C.v j).env
abbrev TX (γ:Type):=L2.St→Hp→(γ→Hp→Prop)→Prop
def aD (X:Cf) (W:WX) {β δ:Type} (Rb:Wd→β→δ→Prop) (k:(δ→Hp→Prop)→Prop) (σ:L2.St) (w:Wd):R β→Prop
 | .fail=>True
 | .ok b sm'=>∀ Q:δ→Hp→Prop,(∀ g w',Gr w w'→SR X.K w' sm' σ→Rb w' b g→Q g w'.H)→k Q
 | .exc c fs sm'=>(∀ w' cls d,Gr w w'→SR X.K w' sm' σ→XR X.K X.mg w' c fs cls d→W cls d σ w'.H)→∀ Q,k Q
def aR (X:Cf) (W:WX) {α γ:Type} (Rr:L2.St→Wd→Wd→α→γ→Prop) (t:TX γ) (m:M α):Prop :=
 ∀ σ w sm,SR X.K w sm σ→aD X W (Rr σ w) (fun Q=>t σ w.H Q) σ w (m sm)
section
variable {X:Cf} {W:WX} {α β γ δ:Type}
theorem aD.seq {Ra:Wd→α→γ→Prop} {Rb:Wd→β→δ→Prop} {ka:(γ→Hp→Prop)→Prop} {kb:γ→Hp→(δ→Hp→Prop)→Prop} {σ:L2.St} {w:Wd} {ra:R α} {f:α→M β}
  (ha:aD X W Ra ka σ w ra)
  (hb:∀ w1 sm1 a g,Gr w w1→SR X.K w1 sm1 σ→Ra w1 a g→aD X W Rb (fun Q=>kb g w1.H Q) σ w1 (f a sm1)) :
  aD X W Rb (fun Q=>ka fun g H1=>kb g H1 Q) σ w (bK ra f):=by
 cases ra with
 | fail=>exact trivial
 | exc c fs sm'=>exact fun h Q=>ha h _
 | ok a sm1 =>
  show aD X W Rb _ σ w (f a sm1)
  cases hf:f a sm1 with
  | fail=>exact trivial
  | ok b sm2 =>
   intro Q q
   refine ha _ fun g w1 g1 s1 r1=>?_
   have h:=hb w1 sm1 a g g1 s1 r1
   rw [hf] at h
   exact h Q fun g' w2 g2 s2 r2=>q g' w2 (g1.trans s1.ok g2) s2 r2
  | exc c fs sm2 =>
   intro q Q
   refine ha _ fun g w1 g1 s1 r1=>?_
   have h:=hb w1 sm1 a g g1 s1 r1
   rw [hf] at h
   exact h (fun w2 cls d g2 s2 r2=>q w2 cls d (g1.trans s1.ok g2) s2 r2) Q
theorem aR.bnd {Ra:L2.St→Wd→Wd→α→γ→Prop} {Rb:L2.St→Wd→Wd→β→δ→Prop} {ta:TX γ} {k:γ→TX δ} {ma:M α} {f:α→M β} (ha:aR X W Ra ta ma)
  (hk:∀ σ w w1 sm1 a g,w.Ok→Gr w w1→SR X.K w1 sm1 σ→Ra σ w w1 a g→aD X W (Rb σ w) (fun Q=>k g σ w1.H Q) σ w1 (f a sm1)) :
  aR X W Rb (fun σ H Q=>ta σ H fun g H1=>k g σ H1 Q) (bnd ma f):=fun σ w sm hs =>
 (ha σ w sm hs).seq fun w1 sm1 a g g1 s1 r1=>hk σ w w1 sm1 a g hs.ok g1 s1 r1
theorem aD.al {Rb:Wd→β→δ→Prop} {k:(δ→Hp→Prop)→Prop} {σ:L2.St} {w:Wd} {sm:Sg} {b:β} (hs:SR X.K w sm σ)
  (h:∀ Q:δ→Hp→Prop,(∀ g w',Al w w'→Rb w' b g→Q g w'.H)→k Q):aD X W Rb k σ w (.ok b sm):=fun Q q=>h Q fun g w' a r=>q g w' a.gr (hs.al a) r
theorem aD.now {Rb:Wd→β→δ→Prop} {k:(δ→Hp→Prop)→Prop} {σ:L2.St} {w:Wd} {sm:Sg} {b:β} {g:δ} (hs:SR X.K w sm σ) (r:Rb w b g)
  (h:∀ Q:δ→Hp→Prop,Q g w.H→k Q):aD X W Rb k σ w (.ok b sm):=fun Q q=>h Q (q g w (Gr.refl w) hs r)
theorem aD.opt {Rb:Wd→β→δ→Prop} {k:(δ→Hp→Prop)→Prop} {σ:L2.St} {w:Wd} {sm:Sg} {o:Option β} (hs:SR X.K w sm σ)
  (h:∀ b,o=some b→∀ Q:δ→Hp→Prop,(∀ g w',Al w w'→Rb w' b g→Q g w'.H)→k Q):aD X W Rb k σ w (opt o sm):=by
 cases o with
 | none=>exact trivial
 | some b=>exact aD.al hs (h b rfl)
end
abbrev RV (K:PySem.W.Frag):L2.St→Wd→Wd→D→V→Prop:=fun _ _ w' d v=>Rep K w' d v
def aP (K:PySem.W.Frag) (w:Wd):D→V→Prop
 | .lst ds,v=>∃ a vs,v = .ref a∧w.H a=some (.lst vs)∧ak K w ds vs
 | .dic ks ds,v=>∃ a vs,v = .ref a∧Rd w.H a (.dK (ks.zip vs))∧ks.length=ds.length∧ak K w ds vs
 | d,v=>Rep K w d v
abbrev RB (K:PySem.W.Frag):L2.St→Wd→Wd→D→V→Prop:=fun _ _ w' d v=>aP K w' d v
theorem Rep.b {K:PySem.W.Frag} {w:Wd} {d:D} {v:V} (h:Rep K w d v):aP K w d v:=by
 cases d with
 | lst ds =>
  unfold Rep at h
  obtain ⟨a,vs,e,s,f,r⟩:=h
  exact ⟨a,vs,e,s,r⟩
 | dic ks ds =>
  unfold Rep at h
  obtain ⟨a,vs,e,s,f,l,r⟩:=h
  exact ⟨a,vs,e,s,l,r⟩
 | _=>exact h
structure jB (w w' : Wd) (a:Addr):Prop where
 nf:¬ w'.F a
 no:¬ w'.O a
 old:w.O a∨w.H a=none
def iW (K:PySem.W.Frag) (w w' : Wd):T→V→Prop
 | .val d,v=>Rep K w' d v
 | .own xs,v=>∃ a vs,v = .ref a∧w'.H a=some (.lst vs)∧jB w w' a∧ak K w' xs vs
 | .owd kvs,v=>∃ a vs,v = .ref a∧w'.H a=some (.dK ((kvs.map (·.1)).zip vs))∧jB w w' a∧ak K w' (kvs.map (·.2)) vs
 | .sto os,v=>False
abbrev RT (K:PySem.W.Frag):L2.St→Wd→Wd→T→V→Prop:=fun _ w w' t v=>iW K w w' t v
theorem jB.back {w w1 w2:Wd} {a:Addr} (l:jB w1 w2 a) (g:Gr w w1) (o1:w1.Ok):jB w w2 a:=⟨l.nf,l.no,by
 rcases l.old with h | h
 ·rcases g.back a (.inr h) with f | f | f
  ·exact absurd h (o1.apart a (g.fr a f))
  ·exact .inl f
  ·exact .inr f
 ·exact .inr (g.fresh h)⟩
theorem iW.back {K:PySem.W.Frag} {w w1 w2:Wd} {t:T} {v:V} (r:iW K w1 w2 t v) (g:Gr w w1) (o1:w1.Ok):iW K w w2 t v:=by
 cases t with
 | val d=>exact r
 | own xs=>obtain ⟨a,vs,e,h,l,q⟩:=r; exact ⟨a,vs,e,h,l.back g o1,q⟩
 | owd kvs=>obtain ⟨a,vs,e,h,l,q⟩:=r; exact ⟨a,vs,e,h,l.back g o1,q⟩
 | sto os=>exact r
abbrev iY (X:Cf) (j:X.I) (xe:Value→Shared→Prop):Prop:=PassesOwn (model X.X.prog X.X.w) X.X.A (X.v j).env xe
structure rZ (X:Cf) (e:Expr) {α:Type} (Rr:L2.St→Wd→Wd→α→V→Prop) (m:M α):Prop where
 ex:∃ t:WX→TE,(∀ j pn xe W,Takes (X.at j pn xe) W→iY X j xe→PE (X.at j pn xe) e (t W))∧∀ W,aR X W Rr (t W) m
abbrev PM (X:Cf) (e:Expr) (m:M D):Prop:=rZ X e (RV X.K) m
abbrev PB (X:Cf) (e:Expr) (m:M D):Prop:=rZ X e (RB X.K) m
abbrev PF (X:Cf) (e:Expr) (m:M T):Prop:=rZ X e (RT X.K) m
structure sE (X:Cf) (e:Expr) (m:M Bool):Prop where
 ex:∃ t:WX→TT,(∀ j pn xe W,Takes (X.at j pn xe) W→iY X j xe→PT (X.at j pn xe) e (t W))∧∀ W,aR X W (fun _ _ _ a b=>a=b) (t W) m
structure sG (X:Cf) (e:Expr) (m:M Bool):Prop where
 ex:∃ t:WX→TT,(∀ j pn xe W,Takes (X.at j pn xe) W→iY X j xe→PW (X.at j pn xe) e (t W))∧∀ W,aR X W (fun _ _ _ a b=>a=b) (t W) m
theorem rZ.imp {X:Cf} {e:Expr} {α:Type} {Ra Rb:L2.St→Wd→Wd→α→V→Prop} {m:M α} (h:rZ X e Ra m) (hi:∀ σ w w' a v,Ra σ w w' a v→Rb σ w w' a v):rZ X e Rb m:=by
 obtain ⟨t,h1,h2⟩:=h.ex
 refine ⟨t,h1,fun W σ w sm hs=>?_⟩
 have q:=h2 W σ w sm hs
 cases hm:m sm with
 | fail=>exact trivial
 | ok a sm'=>rw [hm] at q; exact fun Q k=>q Q fun g w' g1 s1 r1=>k g w' g1 s1 (hi _ _ _ _ _ r1)
 | exc c fs sm'=>rw [hm] at q; exact q
theorem PM.b {X:Cf} {e:Expr} {m:M D} (h:PM X e m):PB X e m:=h.imp fun _ _ _ _ _ r=>Rep.b r
def toT (m:M D):M T:=bnd m fun d=>ret (.val d)
theorem PM.f {X:Cf} {e:Expr} {m:M D} (h:PM X e m):PF X e (toT m):=by
 obtain ⟨t,h1,h2⟩:=h.ex
 refine ⟨t,h1,fun W=>?_⟩
 exact (h2 W).bnd (k:=fun g σ H Q=>Q g H) fun σ w w1 sm1 a g ok g1 s1 r1=>aD.now s1 r1 fun Q q=>q
theorem SR.set {K:PySem.W.Frag} {w:Wd} {sm:Sg} {σ:L2.St} (s:SR K w sm σ) (i:Nat) {d:D} {v:V} (r:Rep K w d v):SR K w (sm.set i (some (.val d))) (σ.set i (some v)) where
 ok:=s.ok
 len:=by simpa using s.len
 slot:=fun j t h=>by
  by_cases hj:i=j
  ·subst hj
   by_cases hl:i < sm.length
   ·rw [List.getElem?_set_self hl] at h
    cases h
    exact ⟨v,by rw [List.getElem?_set_self (by rw [← s.len]; exact hl)],r⟩
   ·rw [List.getElem?_eq_none (by simpa using hl)] at h; cases h
  ·rw [List.getElem?_set_ne hj] at h ⊢
   exact s.slot j t h
 dis:=fun a b t u x ne h1 h2 o1 o2 e1=>by
  by_cases ha:i=a
  ·subst ha
   by_cases hl:i < sm.length
   ·rw [List.getElem?_set_self hl] at h1; cases h1; cases o1
   ·rw [List.getElem?_eq_none (by simpa using hl)] at h1; cases h1
  ·by_cases hb:i=b
   ·subst hb
    by_cases hl:i < sm.length
    ·rw [List.getElem?_set_self hl] at h2; cases h2; cases o2
    ·rw [List.getElem?_eq_none (by simpa using hl)] at h2; cases h2
   ·rw [List.getElem?_set_ne ha] at h1 e1
    rw [List.getElem?_set_ne hb] at h2 ⊢
    exact s.dis a b t u x ne h1 h2 o1 o2 e1
 sep:=fun a k t os x n h1 o1 h2 e1 hl=>by
  by_cases ha:i=a
  ·subst ha
   by_cases hl' : i < sm.length
   ·rw [List.getElem?_set_self hl'] at h1; cases h1; cases o1
   ·rw [List.getElem?_eq_none (by simpa using hl')] at h1; cases h1
  ·by_cases hk:i=k
   ·subst hk
    by_cases hl' : i < sm.length
    ·rw [List.getElem?_set_self hl'] at h2; cases h2
    ·rw [List.getElem?_eq_none (by simpa using hl')] at h2; cases h2
   ·rw [List.getElem?_set_ne ha] at h1 e1
    rw [List.getElem?_set_ne hk] at h2
    exact s.sep a k t os x n h1 o1 h2 e1 hl
theorem SR.forget {K:PySem.W.Frag} {w:Wd} {sm:Sg} {σ:L2.St} (s:SR K w sm σ) (i:Nat) {o:Option V}:SR K w (sm.set i none) (σ.set i o) where
 ok:=s.ok
 len:=by simpa using s.len
 slot:=fun j t h=>by
  by_cases hj:i=j
  ·subst hj
   by_cases hl:i < sm.length
   ·rw [List.getElem?_set_self hl] at h; cases h
   ·rw [List.getElem?_eq_none (by simpa using hl)] at h; cases h
  ·rw [List.getElem?_set_ne hj] at h ⊢
   exact s.slot j t h
 dis:=fun a b t u x ne h1 h2 o1 o2 e1=>by
  by_cases ha:i=a
  ·subst ha
   by_cases hl:i < sm.length
   ·rw [List.getElem?_set_self hl] at h1; cases h1
   ·rw [List.getElem?_eq_none (by simpa using hl)] at h1; cases h1
  ·by_cases hb:i=b
   ·subst hb
    by_cases hl:i < sm.length
    ·rw [List.getElem?_set_self hl] at h2; cases h2
    ·rw [List.getElem?_eq_none (by simpa using hl)] at h2; cases h2
   ·rw [List.getElem?_set_ne ha] at h1 e1
    rw [List.getElem?_set_ne hb] at h2 ⊢
    exact s.dis a b t u x ne h1 h2 o1 o2 e1
 sep:=fun a k t os x n h1 o1 h2 e1 hl=>by
  by_cases ha:i=a
  ·subst ha
   by_cases hl' : i < sm.length
   ·rw [List.getElem?_set_self hl'] at h1; cases h1
   ·rw [List.getElem?_eq_none (by simpa using hl')] at h1; cases h1
  ·by_cases hk:i=k
   ·subst hk
    by_cases hl' : i < sm.length
    ·rw [List.getElem?_set_self hl'] at h2; cases h2
    ·rw [List.getElem?_eq_none (by simpa using hl')] at h2; cases h2
   ·rw [List.getElem?_set_ne ha] at h1 e1
    rw [List.getElem?_set_ne hk] at h2
    exact s.sep a k t os x n h1 o1 h2 e1 hl
theorem set_same {α:Type} {l:List α} {i:Nat} {a:α} (h:l[i]? = some a):l.set i a=l:=by
 apply List.ext_getElem?
 intro j
 by_cases e:i=j
 ·subst e
  rw [List.getElem?_set_self (List.getElem?_eq_some_iff.mp h).1,h]
 ·rw [List.getElem?_set_ne e]
def T.jm:T→Bool
 | .sto _=>true
 | _=>false
def iZ (w:Wd) (t:T) (v:V) (a:Addr):Prop:=v = .ref a∨∃ os n o,t = .sto os∧os[n]? = some o∧o.lk=false∧w.P n=some a
theorem lU {α:Type} {l:List α} {n:Nat} {o:α} (h:l[n]? = some o):n < l.length:=(List.getElem?_eq_some_iff.mp h).1
theorem SR.apart {K:PySem.W.Frag} {w:Wd} {sm:Sg} {σ:L2.St} (s:SR K w sm σ) {i j:Nat} {t u:T} {v v' : V} {a:Addr} (ne:i≠j) (ht:sm[i]? = some (some t)) (hu:sm[j]? = some (some u)) (ot:t.owned=true) (ou:u.owned=true)
  (hv:σ[i]? = some (some v)) (hv' : σ[j]? = some (some v')) (ft:iZ w t v a) (fu:iZ w u v' a):False:=by
 rcases ft with rfl | ⟨os,n,o,rfl,hl,ho,hp⟩
 ·rcases fu with rfl | ⟨os',n',o',rfl,hl',ho',hp'⟩
  ·exact s.dis i j t u _ ne ht hu ot ou hv hv'
  ·exact s.sep i j t os' a n' ht ot hu hv (lU hl') hp'
 ·rcases fu with rfl | ⟨os',n',o',rfl,hl',ho',hp'⟩
  ·exact s.sep j i u os a n hu ou ht hv' (lU hl) hp
  ·obtain ⟨x,ex,rx,_⟩:=s.slot i _ ht
   obtain ⟨y,ey,ry,_⟩:=s.slot j _ hu
   subst rx; subst ry
   exact s.dis i j _ _ _ ne ht hu ot ou ex ey
theorem SR.put {K:PySem.W.Frag} {w:Wd} {sm:Sg} {σ:L2.St} (s:SR K w sm σ) (i:Nat) {t:T} {v:V} (r:aY K w t v)
  (hd:t.owned=true→∀ (j:Nat) (u:T),j≠i→sm[j]? = some (some u)→u.owned=true→σ[j]?≠some (some v))
  (hns:t.jm=false:=by rfl) (hsp:t.owned=true→∀ (k:Nat) (os:List Ob) (a:Addr) (n:Nat),k≠i→sm[k]? = some (some (.sto os))→v = .ref a→n < os.length→w.P n≠some a:=by intro z; cases z):SR K w (sm.set i (some t)) (σ.set i (some v)) where
 ok:=s.ok
 len:=by simpa using s.len
 slot:=fun j t' h=>by
  by_cases hj:i=j
  ·subst hj
   by_cases hl:i < sm.length
   ·rw [List.getElem?_set_self hl] at h
    cases h
    exact ⟨v,by rw [List.getElem?_set_self (by rw [← s.len]; exact hl)],r⟩
   ·rw [List.getElem?_eq_none (by simpa using hl)] at h; cases h
  ·rw [List.getElem?_set_ne hj] at h ⊢
   exact s.slot j t' h
 dis:=fun a b t' u x ne h1 h2 o1 o2 e1=>by
  by_cases ha:i=a
  ·subst ha
   by_cases hl:i < sm.length
   ·rw [List.getElem?_set_self hl] at h1
    cases h1
    rw [List.getElem?_set_self (by rw [← s.len]; exact hl)] at e1
    cases e1
    rw [List.getElem?_set_ne ne] at h2 ⊢
    exact hd o1 b u (fun z=>ne z.symm) h2 o2
   ·rw [List.getElem?_eq_none (by simpa using hl)] at h1; cases h1
  ·by_cases hb:i=b
   ·subst hb
    by_cases hl:i < sm.length
    ·rw [List.getElem?_set_self hl] at h2
     cases h2
     rw [List.getElem?_set_self (by rw [← s.len]; exact hl)]
     rw [List.getElem?_set_ne ha] at h1 e1
     intro z
     cases z
     exact hd o2 a t' ne h1 o1 e1
    ·rw [List.getElem?_eq_none (by simpa using hl)] at h2; cases h2
   ·rw [List.getElem?_set_ne ha] at h1 e1
    rw [List.getElem?_set_ne hb] at h2 ⊢
    exact s.dis a b t' u x ne h1 h2 o1 o2 e1
 sep:=fun a k u os x n h1 o1 h2 e1 hl=>by
  by_cases hk:i=k
  ·subst hk
   by_cases hl' : i < sm.length
   ·rw [List.getElem?_set_self hl'] at h2; cases h2; cases hns
   ·rw [List.getElem?_eq_none (by simpa using hl')] at h2; cases h2
  ·rw [List.getElem?_set_ne hk] at h2
   by_cases ha:i=a
   ·subst ha
    by_cases hl' : i < sm.length
    ·rw [List.getElem?_set_self hl'] at h1; cases h1
     rw [List.getElem?_set_self (by rw [← s.len]; exact hl')] at e1
     cases e1
     exact hsp o1 k os x n (fun z=>hk z.symm) h2 rfl hl
    ·rw [List.getElem?_eq_none (by simpa using hl')] at h1; cases h1
   ·rw [List.getElem?_set_ne ha] at h1 e1
    exact s.sep a k u os x n h1 o1 h2 e1 hl
theorem aY.keepS {K:PySem.W.Frag} {w w' : Wd} (k:Keep w w') (ok:w.Ok) {t:T} {v:V} (h:aY K w t v) (ho:∀ a,iZ w t v a→w.O a→w'.O a∧w'.H a=w.H a) (hP:t.jm=true→w'.P=w.P:=by intro _; rfl) (hZ:t.jm=true→w'.Z=w.Z:=by intro _; rfl)
  (hB:t.jm=true→∀ a od u,w.H a=some (.frz od u)→w'.F a∨w'.O a→w.F a∨w.O a:=by intro _ a od u hu z; first | exact z | exact z.elim .inl (fun q=>.inr q.1)):aY K w' t v:=by
 cases t with
 | val d=>exact Rep.mono k ok d v h
 | own xs =>
  obtain ⟨p,vs,e,h1,h2,h3⟩:=h
  obtain ⟨q1,q2⟩:=ho p (.inl e) h2
  exact ⟨p,vs,e,by rw [q2]; exact h1,q1,ak.mono k ok _ _ h3⟩
 | owd kvs =>
  obtain ⟨p,vs,e,h1,h2,h3⟩:=h
  obtain ⟨q1,q2⟩:=ho p (.inl e) h2
  exact ⟨p,vs,e,by rw [q2]; exact h1,q1,ak.mono k ok _ _ h3⟩
 | sto os =>
  obtain ⟨e,hz,hn,h1⟩:=h
  exact ⟨e,by rw [hZ rfl]; exact hz,by rw [hP rfl]; exact hn,fun n o q=>by
   obtain ⟨p,h2,h3,h4⟩:=h1 n o q
   obtain ⟨u,hu⟩:=h4.there
   exact ⟨p,k.pr n p h2,h3.mono h4 (fun e z=>(ho p (.inr ⟨os,n,o,rfl,q,e,h2⟩) z).1) (hB rfl p),h4.mono k ok (h3.at k hu fun e z=>(ho p (.inr ⟨os,n,o,rfl,q,e,h2⟩) z).2)⟩⟩
theorem aY.pU {K:PySem.W.Frag} {w:Wd} {t:T} {v:V} (h:aY K w t v) (o:t.owned=true) (ns:t.jm=false):∃ a,v = .ref a∧w.O a:=by
 cases t with
 | val d=>cases o
 | own xs=>obtain ⟨p,vs,e,h1,h2,h3⟩:=h; exact ⟨p,e,h2⟩
 | owd kvs=>obtain ⟨p,vs,e,h1,h2,h3⟩:=h; exact ⟨p,e,h2⟩
 | sto os=>cases ns
theorem aY.jc {K:PySem.W.Frag} {w:Wd} {t:T} {v:V} {a:Addr} (h:aY K w t v) (o:t.owned=true) (f:iZ w t v a):w.O a:=by
 cases t with
 | val d=>cases o
 | own xs =>
  obtain ⟨p,vs,e,h1,h2,h3⟩:=h
  rcases f with f | ⟨os,n,o',z,_⟩
  ·subst e; cases f; exact h2
  ·cases z
 | owd xs =>
  obtain ⟨p,vs,e,h1,h2,h3⟩:=h
  rcases f with f | ⟨os,n,o',z,_⟩
  ·subst e; cases f; exact h2
  ·cases z
 | sto os =>
  obtain ⟨e,_,_,h1⟩:=h
  rcases f with f | ⟨os',n,o',z,hl,ho,hp⟩
  ·subst e; cases f
  ·cases z
   obtain ⟨p,h2,h3,h4⟩:=h1 n _ hl
   rw [hp] at h2; cases h2; exact h3.ow ho
theorem SR.tV {K:PySem.W.Frag} {w:Wd} {sm:Sg} {σ:L2.St} (s:SR K w sm σ) {k n:Nat} {os:List Ob} {a:Addr} {o:HO} (hk:sm[k]? = some (some (.sto os))) (hl:n < os.length) (hp:w.P n=some a) (h:w.H a=some o) (mu:Mut (some o)):w.O a:=by
 obtain ⟨v,e,r⟩:=s.slot k _ hk
 obtain ⟨_,_,_,st⟩:=r
 obtain ⟨b,h1,h2,h3⟩:=st n _ (List.getElem?_eq_getElem hl)
 rw [hp] at h1; cases h1
 cases q:os[n] with
 | lkd kvs =>
  rw [q] at h3
  obtain ⟨vs,od,e1,_⟩:=h3
  rw [h] at e1; cases e1
  exact absurd mu id
 | ins c fs=>rw [q] at h2; exact h2
 | lst xs=>rw [q] at h2; exact h2
 | dct kvs=>rw [q] at h2; exact h2
def Wd.frz (w:Wd) (a:Addr):Wd:={ w with F:=fun b=>w.F b∨b=a,O:=fun b=>w.O b∧b≠a }
theorem Wd.Ok.frz {w:Wd} (ok:w.Ok) {a:Addr} {o:HO} (h:w.H a=some o):(w.frz a).Ok :=
 ⟨fun b f o=>f.elim (fun f=>ok.apart b f o.1) fun e=>o.2 e,fun b o=>ok.mu b o.1,fun b f=>f.elim (ok.trk b) fun e=>⟨o,by rw [e]; exact h⟩,ok.inj,ok.fix⟩
theorem Gr.frz {w:Wd} {a:Addr} (o:w.O a∨w.H a=none):Gr w (w.frz a) :=
 ⟨⟨fun b o h _=>h,fun b f=>.inl f,fun _ _ h=>h⟩,fun b h=>by
  rcases h with (h | h) | h
  ·exact .inl h
  ·subst h
   exact .inr o
  ·exact .inr (.inl h.1),fun b o h=>⟨o,h⟩,rfl⟩
theorem SR.frz {K:PySem.W.Frag} {w:Wd} {sm:Sg} {σ:L2.St} (s:SR K w sm σ) {i:Nat} {a:Addr} {o:HO} {t:T} (ht:sm[i]? = some (some t)) (to:t.owned=true) (hv:σ[i]? = some (some (.ref a))) (ho:w.H a=some o) {d:D} (hr:Rep K (w.frz a) d (.ref a)) :
    SR K (w.frz a) (sm.set i (some (.val d))) σ:=by
  have k:Keep w (w.frz a):=⟨fun b o h _=>h,fun b f=>.inl f,fun _ _ h=>h⟩
  refine ⟨s.ok.frz ho,by simpa using s.len,fun j u h=>?_,fun b c u u' v ne h1 h2 o1 o2 e1=>?_,fun b c u os x n h1 o1 h2 e1 hl=>?_⟩
  · by_cases hj:i=j
    · subst hj
      rw [List.getElem?_set_self (List.getElem?_eq_some_iff.mp ht).1] at h
      cases h
      exact ⟨_,hv,hr⟩
    · rw [List.getElem?_set_ne hj] at h
      obtain ⟨v,e,r⟩:=s.slot j u h
      refine ⟨v,e,?_⟩
      by_cases ou:u.owned=true
      · refine r.keepS k s.ok (fun b eb ob => ⟨⟨ob, fun z => by
          subst z
          exact s.apart hj ht h to ou hv e (.inl rfl) eb⟩,rfl⟩) (hB:=fun _ b _ _ _ z=>z.elim (fun f=>f.elim .inl fun q=>.inr ?_) fun q=>.inr q.1)
        obtain ⟨v0,e0,r0⟩:=s.slot i t ht
        rw [hv] at e0; cases e0
        rw [q]; exact r0.jc to (.inl rfl)
      · cases u with
        | val d'=>exact Rep.mono k s.ok d' v r
        | own xs=>exact absurd rfl ou
        | owd kvs=>exact absurd rfl ou
        | sto os=>exact absurd rfl ou
  · by_cases hb:i=b
    · subst hb
      rw [List.getElem?_set_self (List.getElem?_eq_some_iff.mp ht).1] at h1
      cases h1; cases o1
    · by_cases hc:i=c
      · subst hc
        rw [List.getElem?_set_self (List.getElem?_eq_some_iff.mp ht).1] at h2
        cases h2; cases o2
      · rw [List.getElem?_set_ne hb] at h1
        rw [List.getElem?_set_ne hc] at h2
        exact s.dis b c u u' v ne h1 h2 o1 o2 e1
  · by_cases hb:i=b
    · subst hb
      rw [List.getElem?_set_self (List.getElem?_eq_some_iff.mp ht).1] at h1
      cases h1; cases o1
    · by_cases hc:i=c
      · subst hc
        rw [List.getElem?_set_self (List.getElem?_eq_some_iff.mp ht).1] at h2
        cases h2
      · rw [List.getElem?_set_ne hb] at h1
        rw [List.getElem?_set_ne hc] at h2
        exact s.sep b c u os x n h1 o1 h2 e1 hl
abbrev frzT:T→D
 | .val d=>d
 | .own xs=>.lst xs
 | .owd kvs=>.dic (kvs.map (·.1)) (kvs.map (·.2))
 | .sto _=>.non
def aU (i:Nat):M D:=fun sm=>match sm[i]? with
 | some (some t)=>.ok (frzT t) (sm.set i (some (.val (frzT t))))
 | _=>.fail
def aA (i:Nat):M D:=fun sm=>match sm[i]? with
 | some (some t)=>.ok (frzT t) sm
 | _=>.fail
theorem aY.frzT {K:PySem.W.Frag} {w:Wd} {t:T} {v:V} (ok:w.Ok) (h:aY K w t v):aP K w (frzT t) v:=by
 cases t with
 | val d=>exact Rep.b h
 | own xs=>obtain ⟨p,vs,e,h1,h2,h3⟩:=h; exact ⟨p,vs,e,h1,h3⟩
 | owd kvs=>obtain ⟨p,vs,e,h1,h2,h3⟩:=h; exact ⟨p,vs,e,.inl h1,by rw [List.length_map,List.length_map],h3⟩
 | sto os=>exact Rep.b (by unfold Rep; exact h.1)
theorem pW {X:Cf} {W:WX} (i:Nat):aR X W (RB X.K) (tVar i) (aA i):=fun σ w sm hs=>by
 unfold aA
 split
 ·rename_i t h
  obtain ⟨v,e,r⟩:=hs.slot i t h
  exact aD.now hs (aY.frzT hs.ok r) fun Q q=>⟨v,e,q⟩
 ·exact trivial
theorem wQ {X:Cf} {W:WX} (i:Nat):aR X W (RV X.K) (tVar i) (aU i):=fun σ w sm hs=>by
 unfold aU
 split
 ·rename_i t h
  obtain ⟨v,e,r⟩:=hs.slot i t h
  cases t with
  | val d =>
   rw [set_same (show sm[i]? = some (some (.val (frzT (.val d)))) from h)]
   exact aD.now hs r fun Q q=>⟨v,e,q⟩
  | own xs =>
   obtain ⟨a,vs,rfl,h1,h2,h3⟩:=r
   intro Q q
   have k:Keep w (w.frz a):=⟨fun b o h _=>h,fun b f=>.inl f,fun _ _ h=>h⟩
   have rr:Rep X.K (w.frz a) (.lst xs) (.ref a):=by
    unfold Rep
    exact ⟨a,vs,rfl,h1,.inr rfl,ak.mono k hs.ok _ _ h3⟩
   exact ⟨_,e,q (.ref a) (w.frz a) (Gr.frz (.inl h2)) (hs.frz h rfl e h1 rr) rr⟩
  | owd kvs =>
   obtain ⟨a,vs,rfl,h1,h2,h3⟩:=r
   intro Q q
   have k:Keep w (w.frz a):=⟨fun b o h _=>h,fun b f=>.inl f,fun _ _ h=>h⟩
   have rr:Rep X.K (w.frz a) (.dic (kvs.map (·.1)) (kvs.map (·.2))) (.ref a):=by
    unfold Rep
    exact ⟨a,vs,rfl,.inl h1,.inr rfl,by rw [List.length_map,List.length_map],ak.mono k hs.ok _ _ h3⟩
   exact ⟨_,e,q (.ref a) (w.frz a) (Gr.frz (.inl h2)) (hs.frz h rfl e h1 rr) rr⟩
  | sto os =>
   obtain ⟨rfl,h1⟩:=r
   have rr:Rep X.K w .non .non:=by unfold Rep; rfl
   have s2:=hs.set i rr
   rw [set_same e] at s2
   exact fun Q q=>⟨_,e,q .non w (Gr.refl w) s2 rr⟩
 ·exact trivial
section
variable {X:Cf}
theorem aK (i:Nat) {x:Str} {pos:Pos} (hN:X.N[i]? = some x:=by rfl) (hv:∀ j,Vis (X.env j).scope x:=by intro _; first | exact Or.inl rfl | exact Or.inr (Or.inl rfl) | exact Or.inr (Or.inr rfl)) (hd:(x == ("__debug__" : Str))=false:=by decide)
  (hcd:(x == ("__classdict__" : Str))=false:=by decide):PM X (.Name x pos) (aU i):=⟨fun _=>tVar i,fun j pn xe W tk pw=>pe_var hN (hv j) hd hcd,fun W=>wQ i⟩
theorem aH (i:Nat) {x:Str} {pos:Pos} (hN:X.N[i]? = some x:=by rfl) (hv:∀ j,Vis (X.env j).scope x:=by intro _; first | exact Or.inl rfl | exact Or.inr (Or.inl rfl) | exact Or.inr (Or.inr rfl)) (hd:(x == ("__debug__" : Str))=false:=by decide)
  (hcd:(x == ("__classdict__" : Str))=false:=by decide):PB X (.Name x pos) (aA i):=⟨fun _=>tVar i,fun j pn xe W tk pw=>pe_var hN (hv j) hd hcd,fun W=>pW i⟩
theorem pH {W:WX} {d:D} {v:V} (h:∀ w,Rep X.K w d v):aR X W (RV X.K) (tC v) (ret d):=fun σ w sm hs=>aD.now hs (h w) fun Q q=>q
theorem aq {i j pos}:PM X (.Constant (.int i) j pos) (ret (.int i)):=⟨fun _=>tC (.int i),fun j pn xe W tk pw=>pe_int,fun W=>pH fun w=>by unfold Rep; rfl⟩
theorem pJ {b j pos}:PM X (.Constant (.bool b) j pos) (ret (.bl b)):=⟨fun _=>tC (.bl b),fun j pn xe W tk pw=>pe_bl,fun W=>pH fun w=>by unfold Rep; rfl⟩
theorem uH {j pos}:PM X (.Constant .none j pos) (ret .non):=⟨fun _=>tC .non,fun j pn xe W tk pw=>pe_non,fun W=>pH fun w=>by unfold Rep; rfl⟩
theorem pX {x j pos}:PM X (.Constant (.str x) j pos) (ret (.str x)):=⟨fun _=>tC (.str x),fun j pn xe W tk pw=>pe_str,fun W=>pH fun w=>by unfold Rep; rfl⟩
end
def fj (K:PySem.W.Frag) (r:R2) (f:D→D→Option D):Prop :=
 ∀ (w:Wd) (x y:D) (vx vy:V) (z:D),w.Ok→aP K w x vx→aP K w y vy→f x y=some z→∀ Q:VK,(∀ v w',Al w w'→Rep K w' z v→Q v w'.H)→r vx vy w.H Q
def m2 (f:D→D→Option D) (a b:M D):M D:=bnd a fun x=>bnd b fun y=>opt (f x y)
def aM (f:D→D→Option D) (i:Nat) (b:M D):M D:=bnd (aA i) fun _=>bnd b fun y=>bnd (aA i) fun x=>opt (f x y)
section
variable {X:Cf} {W:WX} {r:R2} {f:D→D→Option D} {ta tb:TE} {ma mb:M D}
theorem nU (ho:fj X.K r f) (ha:aR X W (RV X.K) ta ma) (hb:aR X W (RB X.K) tb mb):aR X W (RV X.K) (tOp r ta tb) (m2 f ma mb):=by
 refine ha.bnd (k:=fun x σ H Q=>tb σ H fun y H2=>r x y H2 Q) fun σ w w1 sm1 x vx ok g1 s1 r1=>?_
 refine (hb σ w1 sm1 s1).seq fun w2 sm2 y vy g2 s2 r2=>?_
 exact aD.opt s2 fun z hz Q q=>ho w2 x y vx vy z s2.ok (Rep.b (Rep.mono g2.toKeep s1.ok _ _ r1)) r2 hz Q q
theorem jH {i:Nat} (ho:fj X.K r f) (hb:aR X W (RB X.K) tb mb):aR X W (RV X.K) (tOp r (tVar i) tb) (aM f i mb):=fun σ w sm hs=>by
 have hp:=pW (X:=X) (W:=W) i σ w sm hs
 show aD X W _ _ σ w (bK (aA i sm) fun _=>bnd mb fun y=>bnd (aA i) fun x=>opt (f x y))
 unfold aA
 split
 ·rename_i t h
  obtain ⟨v,e,rt0⟩:=hs.slot i t h
  show aD X W _ _ σ w (bK (mb sm) fun y=>bnd (aA i) fun x=>opt (f x y))
  have q:=(hb σ w sm hs).seq (Rb:=RV X.K σ w) (kb:=fun y H2 Q=>r v y H2 Q) (f:=fun y=>bnd (aA i) fun x=>opt (f x y)) fun w2 sm2 y vy g2 s2 r2=>by
   show aD X W _ _ σ w2 (bK (aA i sm2) fun x=>opt (f x y))
   unfold aA
   split
   ·rename_i t2 h2
    obtain ⟨v2,e2,r3⟩:=s2.slot i t2 h2
    rw [e] at e2
    cases e2
    exact aD.opt s2 fun z hz Q q=>ho w2 _ y v vy z s2.ok (aY.frzT s2.ok r3) r2 hz Q q
   ·exact trivial
  cases hq:bK (mb sm) fun y=>bnd (aA i) fun x=>opt (f x y) with
  | fail=>exact trivial
  | ok b sm' =>
   rw [hq] at q
   exact fun Q k=>⟨v,e,q Q k⟩
  | exc c fs sm' =>
   rw [hq] at q
   exact fun k Q=>⟨v,e,q k Q⟩
 ·exact trivial
end
def fits (n:Nat):Bool:=decide (n≤16777216)
def mQ (i j:Int):Bool:=decide ((-18446744073709551616 < i∧i < 18446744073709551616)∨(-18446744073709551616 < j∧j < 18446744073709551616)∨i.natAbs.log2+j.natAbs.log2 < 1000000)
def pK (j:Int):Bool:=decide (j≠0∧((-18446744073709551616 < j∧j < 18446744073709551616)∨j.natAbs.log2 < 700000))
def D.add:D→D→Option D
 | .int i,.int j=>some (.int (i+j))
 | .str a,.str b=>if fits (a.length+b.length) then some (.str (a++b)) else none
 | .tup xs,.tup ys=>if fits (xs.length+ys.length) then some (.tup (xs++ys)) else none
 | .lst xs,.lst ys=>if fits (xs.length+ys.length) then some (.lst (xs++ys)) else none
 | _,_=>none
def D.sub:D→D→Option D
 | .int i,.int j=>some (.int (i - j))
 | _,_=>none
def D.mul:D→D→Option D
 | .int i,.int j=>if mQ i j then some (.int (i*j)) else none
 | _,_=>none
def D.fdiv:D→D→Option D
 | .int i,.int j=>if pK j then some (.int (i.fdiv j)) else none
 | _,_=>none
def D.mod:D→D→Option D
 | .int i,.int j=>if j≠0 then some (.int (i.fmod j)) else none
 | _,_=>none
def D.pow:D→D→Option D
 | .int i,.int j=>if 0≤j∧j≤1000000∧i.natAbs < 18446744073709551616 then some (.int (i ^ j.toNat)) else none
 | _,_=>none
def D.fX (p:Int→Int→Bool):D→D→Option D
 | .int i,.int j=>some (.bl (p i j))
 | _,_=>none
theorem ak.len {K:PySem.W.Frag} {w:Wd}:∀ {ds:List D} {vs:List V},ak K w ds vs→ds.length=vs.length
 | [],vs,h=>by unfold ak at h; subst h; rfl
 | d :: ds,vs,h=>by
  unfold ak at h
  obtain ⟨v,r,rfl,_,h2⟩:=h
  simp [ak.len h2]
theorem ak.get {K:PySem.W.Frag} {w:Wd}:∀ {ds:List D} {vs:List V} {i:Nat} {d:D},ak K w ds vs→ds[i]? = some d→∃ v,vs[i]? = some v∧Rep K w d v
 | [],vs,i,d,h,e=>by simp at e
 | d :: ds,vs,0,d',h,e=>by
  unfold ak at h
  obtain ⟨v,r,rfl,h1,h2⟩:=h
  simp at e
  subst e
  exact ⟨v,rfl,h1⟩
 | d :: ds,vs,i+1,d',h,e=>by
  unfold ak at h
  obtain ⟨v,r,rfl,h1,h2⟩:=h
  simp at e ⊢
  exact ak.get h2 e
theorem ak.nil {K:PySem.W.Frag} {w:Wd}:ak K w [] []:=by unfold ak; rfl
theorem ak.cons {K:PySem.W.Frag} {w:Wd} {d:D} {v:V} {ds:List D} {vs:List V} (h:Rep K w d v) (r:ak K w ds vs):ak K w (d :: ds) (v :: vs):=by
 unfold ak
 exact ⟨v,vs,rfl,h,r⟩
theorem ak.append {K:PySem.W.Frag} {w:Wd}:∀ {ds es:List D} {vs us:List V},ak K w ds vs→ak K w es us→ak K w (ds++es) (vs++us)
 | [],es,vs,us,h,r=>by unfold ak at h; subst h; exact r
 | d :: ds,es,vs,us,h,r=>by
  unfold ak at h
  obtain ⟨v,q,rfl,h1,h2⟩:=h
  exact ak.cons h1 (ak.append h2 r)
theorem aN {K:PySem.W.Frag} {w:Wd} {i:Int} {v:V} (h:aP K w (.int i) v):v = .int i:=by unfold aP Rep at h; exact h
theorem gQ {K:PySem.W.Frag} {w:Wd} {i:Bool} {v:V} (h:aP K w (.bl i) v):v = .bl i:=by unfold aP Rep at h; exact h
theorem bY {K:PySem.W.Frag} {w:Wd} {i:Str} {v:V} (h:aP K w (.str i) v):v = .str i:=by unfold aP Rep at h; exact h
theorem iK {K:PySem.W.Frag} {w:Wd} {v:V} (h:aP K w .non v):v = .non:=by unfold aP Rep at h; exact h
theorem fY {K:PySem.W.Frag} {w:Wd} {ds:List D} {v:V} (h:aP K w (.tup ds) v):∃ a vs,v = .ref a∧SqT K w.H a vs∧ak K w ds vs:=by unfold aP Rep at h; exact h
theorem iQ {K:PySem.W.Frag} {w:Wd} {ds:List D} {v:V} (h:aP K w (.lst ds) v):∃ a vs,v = .ref a∧w.H a=some (.lst vs)∧ak K w ds vs:=h
theorem aW {K:PySem.W.Frag} {w:Wd} {i:Int}:Rep K w (.int i) (.int i):=by unfold Rep; rfl
theorem gR {K:PySem.W.Frag} {w:Wd} {i:Bool}:Rep K w (.bl i) (.bl i):=by unfold Rep; rfl
theorem fB {K:PySem.W.Frag} {w:Wd} {i:Str}:Rep K w (.str i) (.str i):=by unfold Rep; rfl
theorem nW {K:PySem.W.Frag} {w:Wd}:Rep K w .non .non:=by unfold Rep; rfl
theorem sH {K:PySem.W.Frag} {w:Wd} (ok:w.Ok) {ds:List D} {vs:List V} (r:ak K w ds vs) {p:Addr} (h:w.H p=none):Al w { w with H:=upd w.H p (.tup vs) }∧Rep K { w with H:=upd w.H p (.tup vs) } (.tup ds) (.ref p):=by
 have a:=Al.tup ok h (.tup vs)
 refine ⟨a,?_⟩
 unfold Rep
 exact ⟨p,vs,rfl,.inl (.inl upd_same),ak.mono a.keep ok _ _ r⟩
theorem wR {K:PySem.W.Frag} {w:Wd} (ok:w.Ok) {ds:List D} {vs:List V} (r:ak K w ds vs) {p:Addr} (h:w.H p=none):Al w { w with H:=upd w.H p (.lst vs),F:=fun b=>w.F b∨b=p }∧Rep K { w with H:=upd w.H p (.lst vs),F:=fun b=>w.F b∨b=p } (.lst ds) (.ref p):=by
 have a:=Al.frozen ok h (.lst vs)
 refine ⟨a,?_⟩
 unfold Rep
 exact ⟨p,vs,rfl,upd_same,.inr rfl,ak.mono a.keep ok _ _ r⟩
section
variable {X:Cx}
theorem OpR.or {f:Value→Value→Sem Value} {r r' : R2} (h:OpR X f r) (h' : OpR X f r'):OpR X f (fun x y H Q=>r x y H Q∨r' x y H Q):=fun pins s σ H x y v u Q I rx ry q=>by
 rcases q with q | q
 ·exact h pins s σ H x y v u Q I rx ry q
 ·exact h' pins s σ H x y v u Q I rx ry q
end
end Mir
namespace Mir
open PySem PySem.Spec PyProof.Rows L2
def wu (K:PySem.W.Frag):R2:=fun x y H Q=>rI0 (fun i j=>.int (i+j)) x y H Q∨(∃ i j,x = .str i∧y = .str j∧i.length+j.length≤sizeLine∧Q (.str (i++j)) H)∨rCatA K x y H Q∨rCat x y H Q
theorem bF {X:Cx}:OpR X (binaryOp .Add) (wu X.K):=OpR.or op_add (OpR.or op_add_str (OpR.or op_catA op_cat))
theorem dJ {n:Nat} (h:fits n=true):n≤sizeLine:=by rw [sizeLine_eq]; exact of_decide_eq_true h
theorem ak.nil_iff {K:PySem.W.Frag} {w:Wd} {ds:List D} {vs:List V} (r:ak K w ds vs):vs=[]→ds=[]:=fun e=>by
 subst e
 have:=r.len
 exact List.eq_nil_of_length_eq_zero (by simpa using this)
theorem bG (K:PySem.W.Frag):fj K (wu K) D.add:=by
 intro w x y vx vy z ok rx ry h Q q
 cases x <;> cases y <;> try (simp [D.add] at h; done)
 ·cases aN rx; cases aN ry
  simp only [D.add,Option.some.injEq] at h; subst h
  exact .inl ⟨_,_,rfl,rfl,q _ w (Al.refl ok) aW⟩
 ·cases bY rx; cases bY ry
  simp only [D.add] at h
  split at h
  ·rename_i hf; cases h
   exact .inr (.inl ⟨_,_,rfl,rfl,dJ hf,q _ w (Al.refl ok) fB⟩)
  ·cases h
 ·rename_i xs ys
  obtain ⟨a,us,rfl,h1,r1⟩:=fY rx
  obtain ⟨b,vs,rfl,h2,r2⟩:=fY ry
  simp only [D.add] at h
  split at h
  ·rename_i hf; cases h
   have hl:us.length+vs.length≤sizeLine:=by rw [← r1.len,← r2.len]; exact dJ hf
   refine .inr (.inr (.inl ⟨a,b,us,vs,rfl,rfl,h1,h2,hl,fun e=>?_,fun e e2=>?_,fun e e2 p hp=>?_⟩))
   ·have:=r1.nil_iff e; subst this
    exact q _ w (Al.refl ok) (by unfold Rep; exact ⟨b,vs,rfl,h2,r2⟩)
   ·have:=r2.nil_iff e2; subst this
    exact q _ w (Al.refl ok) (by unfold Rep; rw [List.append_nil]; exact ⟨a,us,rfl,h1,r1⟩)
   ·obtain ⟨al,rr⟩:=sH ok (r1.append r2) hp
    exact q _ _ al rr
  ·cases h
 ·obtain ⟨a,us,rfl,h1,r1⟩:=iQ rx
  obtain ⟨b,vs,rfl,h2,r2⟩:=iQ ry
  simp only [D.add] at h
  split at h
  ·rename_i hf; cases h
   have hl:us.length+vs.length≤sizeLine:=by rw [← r1.len,← r2.len]; exact dJ hf
   refine .inr (.inr (.inr ⟨a,b,us,vs,rfl,rfl,h1,h2,hl,fun p hp=>?_⟩))
   obtain ⟨al,rr⟩:=wR ok (r1.append r2) hp
   exact q _ _ al rr
  ·cases h
theorem uI (K:PySem.W.Frag) {g:Int→Int→V} {f:D→D→Option D} {e:Int→Int→D} (hf:∀ x y z,f x y=some z→∃ i j,x = .int i∧y = .int j∧z=e i j) (he:∀ w i j,Rep K w (e i j) (g i j)):fj K (rI0 g) f:=by
 intro w x y vx vy z ok rx ry h Q q
 obtain ⟨i,j,rfl,rfl,rfl⟩:=hf x y z h
 cases aN rx; cases aN ry
 exact ⟨_,_,rfl,rfl,q _ w (Al.refl ok) (he w i j)⟩
theorem pN (K:PySem.W.Frag) {C:Int→Int→Prop} {g:Int→Int→V} {f:D→D→Option D} {e:Int→Int→D} (hf:∀ x y z,f x y=some z→∃ i j,x = .int i∧y = .int j∧C i j∧z=e i j) (he:∀ w i j,Rep K w (e i j) (g i j)):fj K (rI C g) f:=by
 intro w x y vx vy z ok rx ry h Q q
 obtain ⟨i,j,rfl,rfl,hc,rfl⟩:=hf x y z h
 cases aN rx; cases aN ry
 exact ⟨_,_,rfl,rfl,hc,q _ w (Al.refl ok) (he w i j)⟩
theorem sJ (K:PySem.W.Frag):fj K (rI0 fun i j=>.int (i - j)) D.sub:=uI K (e:=fun i j=>.int (i - j)) (fun x y z h=>by cases x <;> cases y <;> first | (simp [D.sub] at h; done) | (simp only [D.sub,Option.some.injEq] at h; exact ⟨_,_,rfl,rfl,h.symm⟩)) fun w i j=>aW
def wz (i j:Int):Prop:=CMul i j∨CMulW i j
theorem fD {X:Cx}:OpR X (binaryOp .Mult) (rI wz fun i j=>.int (i*j)):=opI fun _ _ _ _ _ _ _ hc q=>mul_int q (hc.elim CMul.ok CMulW.ok)
theorem fG (K:PySem.W.Frag):fj K (rI wz fun i j=>.int (i*j)) D.mul:=pN K (e:=fun i j=>.int (i*j)) (fun x y z h=>by
 unfold D.mul at h
 split at h
 ·split at h
  ·rename_i hc
   cases h
   exact ⟨_,_,rfl,rfl,(of_decide_eq_true (p:=_∨_∨_) hc).elim (fun z=>.inl (.inl ⟨by omega,by omega⟩)) fun z=>z.elim (fun z=>.inl (.inr ⟨by omega,by omega⟩)) .inr,rfl⟩
  ·cases h
 ·cases h) fun w i j=>aW
def wA (_ j:Int):Prop:=j≠0
structure Dv (P:Program) (base:Heap):Prop where
 tree:P.given.tree=none
 seer:base.NoSeer
structure Cd (X:Cx):Prop where
 dv:Dv X.prog X.base
 fr:∃ env l,X.stack=env :: l∧env.scope.isGenerator=false∧env.scope.isCoroutine=false∧env.builtins=builtinsNs∧env.globals=mainGlobals
 dp:X.A.depth+Builtin.pylongFrames < recursionLimit
theorem pY {X:Cx} (D:Cd X):OpR X (binaryOp .FloorDiv) (rI wA fun i j=>.int (i.fdiv j)):=by
 intro pins s σ H x y v u Q I rx ry h
 obtain ⟨i,j,rfl,rfl,hc,q⟩:=h
 obtain ⟨t,rfl⟩:=rx
 obtain ⟨t',rfl⟩:=ry
 obtain ⟨env,l,e1,e2,e3,e4,e5⟩:=D.fr
 exact floordiv_int hc ⟨.int (i.fdiv j),H,I.tok _,⟨_,rfl⟩,q⟩ (.inr (PylongRoom.of I.nolimit D.dp (SeerAt.of (D.dv.seer.keeps I.bk) D.dv.tree (I.ok.frames.trans (congrArg some e1)) e2 e3 e4 e5)))
theorem pZ (K:PySem.W.Frag):fj K (rI wA fun i j=>.int (i.fdiv j)) D.fdiv:=pN K (e:=fun i j=>.int (i.fdiv j)) (fun x y z h=>by
 unfold D.fdiv at h
 split at h
 ·split at h
  ·rename_i hc
   cases h
   exact ⟨_,_,rfl,rfl,(of_decide_eq_true (p:=_∧(_∨_)) hc).1,rfl⟩
  ·cases h
 ·cases h) fun w i j=>aW
theorem fH (K:PySem.W.Frag):fj K (rI (fun _ j=>j≠0) fun i j=>.int (i.fmod j)) D.mod:=pN K (e:=fun i j=>.int (i.fmod j)) (fun x y z h=>by
 unfold D.mod at h
 split at h
 ·split at h
  ·rename_i hc
   cases h
   exact ⟨_,_,rfl,rfl,hc,rfl⟩
  ·cases h
 ·cases h) fun w i j=>aW
theorem sO (K:PySem.W.Frag):fj K (rI CPow fun i j=>.int (i ^ j.toNat)) D.pow:=pN K (e:=fun i j=>.int (i ^ j.toNat)) (fun x y z h=>by
 unfold D.pow at h
 split at h
 ·split at h
  ·rename_i hc
   cases h
   exact ⟨_,_,rfl,rfl,hc,rfl⟩
  ·cases h
 ·cases h) fun w i j=>aW
theorem fZ (K:PySem.W.Frag) (p:Int→Int→Bool):fj K (rI0 fun i j=>.bl (p i j)) (D.fX p):=uI K (e:=fun i j=>.bl (p i j)) (fun x y z h=>by
 cases x <;> cases y <;> first | (simp [D.fX] at h; done) | (simp only [D.fX,Option.some.injEq] at h; exact ⟨_,_,rfl,rfl,h.symm⟩)) fun w i j=>gR
abbrev lO:Int→Int→Bool:=fun i j=>decide (i < j)
abbrev yq:Int→Int→Bool:=fun i j=>decide (i≤j)
abbrev oY:Int→Int→Bool:=fun i j=>decide (j < i)
abbrev sS:Int→Int→Bool:=fun i j=>decide (j≤i)
mutual
def D.toP:D→PyData
 | .non=>.none
 | .bl b=>.bool b
 | .int i=>.int i
 | .str x=>.str x
 | .tup xs=>.tuple (D.lV xs)
 | .lst xs=>.list (D.lV xs)
 | .dic _ _=>.dict []
 | .scr _=>.dict []
 | .exn _ _ _=>.dict []
 | .ob _=>.dict []
def D.lV:List D→List PyData
 | []=>[]
 | x :: xs=>D.toP x :: D.lV xs
end
def D.wB (d:D):Bool:=SeqAt.shaped d.toP
mutual
theorem Rep.dp {K:PySem.W.Frag} {w:Wd}:∀ (d:D) (v:V),d.toP.canLay0=true→Rep K w d v→Dp K w.H v d.toP
 | .non,v,_,h=>by unfold Rep at h; subst h; exact .non
 | .bl b,v,_,h=>by unfold Rep at h; subst h; exact .bl b
 | .int i,v,_,h=>by unfold Rep at h; subst h; exact .int i
 | .str x,v,_,h=>by unfold Rep at h; subst h; exact .str x
 | .tup ds,v,c,h=>by
  unfold Rep at h
  obtain ⟨a,vs,rfl,s,r⟩:=h
  exact .tup s (ak.dp ds vs (by simpa [D.toP,PyData.canLay0] using c) r)
 | .lst ds,v,c,h=>by
  unfold Rep at h
  obtain ⟨a,vs,rfl,s,f,r⟩:=h
  exact .lst (SqL.of s) (ak.dp ds vs (by simpa [D.toP,PyData.canLay0] using c) r)
 | .dic ks ds,v,c,h=>by simp [D.toP,PyData.canLay0] at c
 | .scr ns,v,c,h=>by simp [D.toP,PyData.canLay0] at c
 | .exn _ _ _,v,c,h=>by simp [D.toP,PyData.canLay0] at c
 | .ob _,v,c,h=>by simp [D.toP,PyData.canLay0] at c
theorem ak.dp {K:PySem.W.Frag} {w:Wd}:∀ (ds:List D) (vs:List V),PyData.canLayAll0 (D.lV ds)=true→ak K w ds vs→DpAll K w.H vs (D.lV ds)
 | [],vs,_,h=>by unfold ak at h; subst h; exact .nil
 | d :: ds,vs,c,h=>by
  unfold ak at h
  obtain ⟨v,r,rfl,h1,h2⟩:=h
  have c' : d.toP.canLay0=true∧PyData.canLayAll0 (D.lV ds)=true:=by simpa [D.lV,PyData.canLayAll0] using c
  exact .cons (Rep.dp d v c'.1 h1) (ak.dp ds r c'.2 h2)
end
theorem aP.dp {K:PySem.W.Frag} {w:Wd} {d:D} {v:V} (c:d.toP.canLay0=true) (h:aP K w d v):Dp K w.H v d.toP:=by
 cases d with
 | lst ds =>
  obtain ⟨a,vs,rfl,s,r⟩:=h
  exact .lst (SqL.of s) (ak.dp ds vs (by simpa [D.toP,PyData.canLay0] using c) r)
 | dic ks ds=>simp [D.toP,PyData.canLay0] at c
 | _=>exact Rep.dp _ _ c h
def pO:D→D→Bool
 | .non,.non=>true | .non,.int _=>true | .int _,.non=>true | .non,.bl _=>true | .bl _,.non=>true | .non,.str _=>true | .str _,.non=>true
 | .int _,.int _=>true | .bl _,.bl _=>true | .str _,.str _=>true
 | .int _,.str _=>true | .str _,.int _=>true | .bl _,.str _=>true | .str _,.bl _=>true
 | _,_=>false
def D.eqv (x y:D):Bool:=PyData.eqv x.toP y.toP
def D.eqO (x y:D):Option D:=if pO x y || (x.wB && y.wB) then some (.bl (D.eqv x y)) else none
def D.neO (x y:D):Option D:=if pO x y || (x.wB && y.wB) then some (.bl (!D.eqv x y)) else none
def yr (K:PySem.W.Frag):R2:=fun x y H Q=>rEq x y H Q∨rEqD K x y H Q
def yt (K:PySem.W.Frag):R2:=fun x y H Q=>rNe x y H Q∨rNeD K x y H Q
theorem fK {X:Cx} (hu:X.A.units+64 < cLine):OpR X (compareOp .Eq) (yr X.K):=OpR.or op_eq (op_eqD hu)
theorem qb {X:Cx} (hu:X.A.units+64 < cLine):OpR X (compareOp .NotEq) (yt X.K):=OpR.or op_ne (op_neD hu)
theorem qd {K:PySem.W.Frag} {w:Wd} {x y:D} {vx vy:V} (h:pO x y=true) (rx:aP K w x vx) (ry:aP K w y vy):scal vx vy=true∧decide (vx=vy)=D.eqv x y:=by
 cases x <;> cases y <;> first
  | (simp [pO] at h; done)
  | (first | cases aN rx | cases bY rx | cases gQ rx | cases iK rx) <;> (first | cases aN ry | cases bY ry | cases gQ ry | cases iK ry) <;> refine ⟨rfl,?_⟩ <;> simp [D.eqv,D.toP,PyData.eqv] <;> (try rw [Bool.eq_iff_iff]) <;> (try simp)
theorem fL (K:PySem.W.Frag):fj K (yr K) D.eqO:=by
 intro w x y vx vy z ok rx ry h Q q
 unfold D.eqO at h
 split at h
 ·rename_i hc
  cases h
  rcases Bool.or_eq_true_iff.mp hc with hs | hs
  ·obtain ⟨h1,h2⟩:=qd hs rx ry
   exact .inl ⟨h1,by rw [h2]; exact q _ w (Al.refl ok) gR⟩
  ·obtain ⟨h1,h2⟩:=Bool.and_eq_true_iff.mp hs
   exact .inr ⟨x.toP,y.toP,aP.dp (SeqAt.canLay_of_shaped h1) rx,aP.dp (SeqAt.canLay_of_shaped h2) ry,h1,h2,q _ w (Al.refl ok) gR⟩
 ·cases h
theorem qj (K:PySem.W.Frag):fj K (yt K) D.neO:=by
 intro w x y vx vy z ok rx ry h Q q
 unfold D.neO at h
 split at h
 ·rename_i hc
  cases h
  rcases Bool.or_eq_true_iff.mp hc with hs | hs
  ·obtain ⟨h1,h2⟩:=qd hs rx ry
   exact .inl ⟨h1,by rw [h2]; exact q _ w (Al.refl ok) gR⟩
  ·obtain ⟨h1,h2⟩:=Bool.and_eq_true_iff.mp hs
   exact .inr ⟨x.toP,y.toP,aP.dp (SeqAt.canLay_of_shaped h1) rx,aP.dp (SeqAt.canLay_of_shaped h2) ry,h1,h2,q _ w (Al.refl ok) gR⟩
 ·cases h
section
variable {X:Cf} {a b c:Expr} {ma mb mc:M D} {pos:Pos}
theorem aX {op:Operator} {r:R2} {f:D→D→Option D} (hr:∀ j pn xe,OpR (X.at j pn xe) (binaryOp op) r) (ho:fj X.K r f) (ha:PM X a ma) (hb:PB X b mb):PM X (.BinOp a op b pos) (m2 f ma mb):=by
 obtain ⟨ta,pa,sa⟩:=ha.ex
 obtain ⟨tb,pb,sb⟩:=hb.ex
 exact ⟨fun W=>tOp r (ta W) (tb W),fun j pn xe W tk pw=>pe_op (hr j pn xe) (pa j pn xe W tk pw) (pb j pn xe W tk pw),fun W=>nU ho (sa W) (sb W)⟩
theorem dU {op:Operator} {r:R2} {f:D→D→Option D} {x:Str} {p:Pos} (i:Nat) (hr:∀ j pn xe,OpR (X.at j pn xe) (binaryOp op) r) (ho:fj X.K r f) (hb:PB X b mb) (hN:X.N[i]? = some x:=by rfl)
  (hv:∀ j,Vis (X.env j).scope x:=by intro _; first | exact Or.inl rfl | exact Or.inr (Or.inl rfl) | exact Or.inr (Or.inr rfl)) (hd:(x == ("__debug__" : Str))=false:=by decide) (hcd:(x == ("__classdict__" : Str))=false:=by decide):PM X (.BinOp (.Name x p) op b pos) (aM f i mb):=by
 obtain ⟨tb,pb,sb⟩:=hb.ex
 exact ⟨fun W=>tOp r (tVar i) (tb W),fun j pn xe W tk pw=>pe_op (hr j pn xe) (pe_var hN (hv j) hd hcd) (pb j pn xe W tk pw),fun W=>jH ho (sb W)⟩
theorem gh {op:CmpOp} {r:R2} {f:D→D→Option D} {x:Str} {p:Pos} (i:Nat) (hr:∀ j pn xe,OpR (X.at j pn xe) (compareOp op) r) (ho:fj X.K r f) (hb:PB X b mb) (hm:behindInMarks op b=false) (hN:X.N[i]? = some x:=by rfl)
  (hv:∀ j,Vis (X.env j).scope x:=by intro _; first | exact Or.inl rfl | exact Or.inr (Or.inl rfl) | exact Or.inr (Or.inr rfl)) (hd:(x == ("__debug__" : Str))=false:=by decide) (hcd:(x == ("__classdict__" : Str))=false:=by decide):PM X (.Compare (.Name x p) [op] [b] pos) (aM f i mb):=by
 obtain ⟨tb,pb,sb⟩:=hb.ex
 exact ⟨fun W=>tOp r (tVar i) (tb W),fun j pn xe W tk pw=>pe_cmpR (hr j pn xe) (pe_var hN (hv j) hd hcd) (pb j pn xe W tk pw) hm,fun W=>jH ho (sb W)⟩
def bH (m:M D):M Bool:=bnd m fun d=>match d with
 | .bl b=>ret b
 | _=>stuck
theorem ql {W:WX} {t:TE} {m:M D} (h:aR X W (RV X.K) t m):aR X W (fun _ _ _ a b=>a=b) (tTest t) (bH m):=by
 refine h.bnd (k:=fun x σ H Q=>∃ k,x = .bl k∧Q k H) fun σ w w1 sm1 d v ok g1 s1 r1=>?_
 cases d with
 | bl b=>cases gQ (Rep.b r1); exact aD.now s1 rfl fun Q q=>⟨b,rfl,q⟩
 | _=>exact trivial
theorem pt_cmp {op:CmpOp} {r:R2} {f:D→D→Option D} (hr:∀ j pn xe,OpR (X.at j pn xe) (compareOp op) r) (ho:fj X.K r f) (ha:PM X a ma) (hb:PB X b mb) (hm:behindInMarks op b=false):sE X (.Compare a [op] [b] pos) (bH (m2 f ma mb)):=by
 obtain ⟨ta,pa,sa⟩:=ha.ex
 obtain ⟨tb,pb,sb⟩:=hb.ex
 exact ⟨fun W=>tTest (tOp r (ta W) (tb W)),fun j pn xe W tk pw=>pt_cmpR (hr j pn xe) (pa j pn xe W tk pw) (pb j pn xe W tk pw) hm,fun W=>ql (nU ho (sa W) (sb W))⟩
theorem gj {op:CmpOp} {r:R2} {f:D→D→Option D} {x:Str} {p:Pos} (i:Nat) (hr:∀ j pn xe,OpR (X.at j pn xe) (compareOp op) r) (ho:fj X.K r f) (hb:PB X b mb) (hm:behindInMarks op b=false) (hN:X.N[i]? = some x:=by rfl)
  (hv:∀ j,Vis (X.env j).scope x:=by intro _; first | exact Or.inl rfl | exact Or.inr (Or.inl rfl) | exact Or.inr (Or.inr rfl)) (hd:(x == ("__debug__" : Str))=false:=by decide) (hcd:(x == ("__classdict__" : Str))=false:=by decide):sE X (.Compare (.Name x p) [op] [b] pos) (bH (aM f i mb)):=by
 obtain ⟨tb,pb,sb⟩:=hb.ex
 exact ⟨fun W=>tTest (tOp r (tVar i) (tb W)),fun j pn xe W tk pw=>pt_cmpR (hr j pn xe) (pe_var hN (hv j) hd hcd) (pb j pn xe W tk pw) hm,fun W=>ql (jH ho (sb W))⟩
def vK (m n:M Bool):M Bool:=bnd m fun b=>if b=true then n else ret false
def uJ (m n:M Bool):M Bool:=bnd m fun b=>if b=true then ret true else n
theorem yu {W:WX} {t u:TT} {m n:M Bool} (h:aR X W (fun _ _ _ a b=>a=b) t m) (h2:aR X W (fun _ _ _ a b=>a=b) u n):aR X W (fun _ _ _ a b=>a=b) (tOr t u) (uJ m n):=by
 refine h.bnd (k:=fun c σ H Q=>if c=true then Q true H else u σ H Q) fun σ w w1 sm1 b g ok g1 s1 r1=>?_
 subst r1
 cases b with
 | true=>exact aD.now s1 rfl fun Q q=>q
 | false=>exact h2 σ w1 sm1 s1
theorem wU {m:M Bool} (h:sE X a m):sG X (.BoolOp .Or [a] pos) m:=by
 obtain ⟨t,p,s⟩:=h.ex
 exact ⟨t,fun j pn xe W tk pw=>pw_or1 (p j pn xe W tk pw),s⟩
theorem yw {rest:List Expr} {m n:M Bool} (h:sE X a m) (h2:sG X (.BoolOp .Or (b :: rest) pos) n):sG X (.BoolOp .Or (a :: b :: rest) pos) (uJ m n):=by
 obtain ⟨t,p,s⟩:=h.ex
 obtain ⟨t2,p2,s2⟩:=h2.ex
 exact ⟨fun W=>tOr (t W) (t2 W),fun j pn xe W tk pw=>pw_or (p j pn xe W tk pw) (p2 j pn xe W tk pw),fun W=>yu (s W) (s2 W)⟩
theorem sG.pt {e:Expr} {m:M Bool} (h:sG X e m):sE X e m:=by
 obtain ⟨t,p,s⟩:=h.ex
 exact ⟨t,fun j pn xe W tk pw=>(p j pn xe W tk pw).pt,s⟩
end
end Mir
namespace Mir
open PySem PySem.Spec PyProof.Rows L2
def cW (m:M T):M D:=bnd m fun t=>ret (frzT t)
theorem jB.gr {w w' : Wd} {a:Addr} (g:Gr w w') (l:jB w w' a):Gr w (w'.frz a) :=
 ⟨⟨fun b o h n=>g.kept b o h n,fun b f=>.inl (g.fr b f),g.pr⟩,fun b h=>by
  rcases h with (h | h) | h
  ·exact g.back b (.inl h)
  ·subst h; exact .inr l.old
  ·exact g.back b (.inr h.1),g.there,g.zz⟩
theorem SR.yx {K:PySem.W.Frag} {w:Wd} {sm:Sg} {σ:L2.St} (s:SR K w sm σ) {a:Addr} {o:HO} (ho:w.H a=some o) (no:¬ w.O a) (nf:∀ od u,o≠.frz od u:=by intro _ _ z; cases z):SR K (w.frz a) sm σ:=by
 have k:Keep w (w.frz a):=⟨fun b o h _=>h,fun b f=>.inl f,fun _ _ h=>h⟩
 refine ⟨s.ok.frz ho,s.len,fun j u h=>?_,s.dis,s.sep⟩
 obtain ⟨v,e,r⟩:=s.slot j u h
 exact ⟨v,e,r.keepS k s.ok (fun b eb ob=>⟨⟨ob,fun z=>no (z ▸ ob)⟩,rfl⟩) (hB:=fun _ b od u hu z=>z.elim (fun f=>f.elim .inl fun q=>by rw [q,ho] at hu; cases hu; exact absurd rfl (nf od u)) fun q=>.inr q.1)⟩
theorem iW.frz {K:PySem.W.Frag} {w w' : Wd} {t:T} {v:V} {sm:Sg} {σ:L2.St} (g:Gr w w') (s:SR K w' sm σ) (r:iW K w w' t v):∃ w2,Gr w w2∧SR K w2 sm σ∧Rep K w2 (frzT t) v∧w2.H=w'.H:=by
 cases t with
 | val d=>exact ⟨w',g,s,r,rfl⟩
 | own xs =>
  obtain ⟨a,vs,rfl,h,l,q⟩:=r
  have k:Keep w' (w'.frz a):=⟨fun b o h _=>h,fun b f=>.inl f,fun _ _ h=>h⟩
  refine ⟨w'.frz a,l.gr g,s.yx h l.no,?_,rfl⟩
  unfold frzT Rep
  exact ⟨a,vs,rfl,h,.inr rfl,ak.mono k s.ok _ _ q⟩
 | owd kvs =>
  obtain ⟨a,vs,rfl,h,l,q⟩:=r
  have k:Keep w' (w'.frz a):=⟨fun b o h _=>h,fun b f=>.inl f,fun _ _ h=>h⟩
  refine ⟨w'.frz a,l.gr g,s.yx h l.no,?_,rfl⟩
  unfold frzT Rep
  exact ⟨a,vs,rfl,.inl h,.inr rfl,by rw [List.length_map,List.length_map],ak.mono k s.ok _ _ q⟩
 | sto os=>exact r.elim
theorem PF.m {X:Cf} {e:Expr} {m:M T} (h:PF X e m):PM X e (cW m):=by
 obtain ⟨t,h1,h2⟩:=h.ex
 refine ⟨t,h1,fun W σ w sm hs=>?_⟩
 have q:=h2 W σ w sm hs
 show aD X W _ _ σ w (bK (m sm) fun t=>ret (frzT t))
 cases hm:m sm with
 | fail=>exact trivial
 | exc c fs sm'=>rw [hm] at q; exact q
 | ok t' sm' =>
  rw [hm] at q
  exact fun Q k=>q Q fun g w' g1 s1 r1=>by
   obtain ⟨w2,g2,s2,r2,e⟩:=r1.frz g1 s1
   rw [← e]
   exact k g w2 g2 s2 r2
theorem PF.b {X:Cf} {e:Expr} {m:M T} (h:PF X e m):PB X e (cW m):=h.m.b
structure uK (X:Cf) (es:List Expr) (m:M (List D)):Prop where
 ex:∃ t:WX→TA,(∀ j pn xe W,Takes (X.at j pn xe) W→iY X j xe→PA (X.at j pn xe) es (t W))∧∀ W,aR X W (fun _ _ w' ds vs=>ak X.K w' ds vs) (t W) m
def bL:M (List D):=ret []
def aC (m:M D) (r:M (List D)):M (List D):=bnd m fun d=>bnd r fun ds=>ret (d :: ds)
section
variable {X:Cf} {e:Expr} {es:List Expr} {pos:Pos}
theorem aQ:uK X [] bL:=⟨fun _=>tNil,fun j pn xe W tk pw=>pa_nil,fun W σ w sm hs=>aD.now hs ak.nil fun Q q=>q⟩
theorem ao {m:M D} {r:M (List D)} (h:PM X e m) (h2:uK X es r) (hs:∀ j,starEach (e :: es) (X.env j)=(false,eval e (X.env j)) :: starEach es (X.env j):=by intro _; rfl):uK X (e :: es) (aC m r):=by
 obtain ⟨t,p,s⟩:=h.ex
 obtain ⟨t2,p2,s2⟩:=h2.ex
 refine ⟨fun W=>tCons (t W) (t2 W),fun j pn xe W tk pw=>pa_cons (p j pn xe W tk pw) (p2 j pn xe W tk pw) (hs j),fun W=>?_⟩
 refine (s W).bnd (k:=fun x σ H Q=>t2 W σ H fun xs H2=>Q (x :: xs) H2) fun σ w w1 sm1 d v ok g1 s1 r1=>?_
 refine (s2 W σ w1 sm1 s1).seq fun w2 sm2 ds vs g2 s2 r2=>?_
 exact aD.now s2 (ak.cons (Rep.mono g2.toKeep s1.ok _ _ r1) r2) fun Q q=>q
def gq (m:M (List D)):M D:=bnd m fun ds=>opt (if fits ds.length then some (.tup ds) else none)
theorem dW {x1} {m:M (List D)} (h:uK X es m):PM X (.Tuple es x1 pos) (gq m):=by
 obtain ⟨t,p,s⟩:=h.ex
 refine ⟨fun W=>tTup (t W),fun j pn xe W tk pw=>pe_tup (p j pn xe W tk pw),fun W=>?_⟩
 refine (s W).bnd (k:=fun xs σ H Q=>xs.length≤sizeLine∧∀ p,H p=none→Q (V.ref p) (upd H p (.tup xs))) fun σ w w1 sm1 ds vs ok g1 s1 r1=>?_
 refine aD.opt s1 fun d hd Q q=>?_
 split at hd
 ·rename_i hf
  cases hd
  refine ⟨by rw [← r1.len]; exact dJ hf,fun p hp=>?_⟩
  obtain ⟨al,rr⟩:=sH s1.ok r1 hp
  exact q _ _ al rr
 ·cases hd
def dR (m:M (List D)):M T:=bnd m fun ds=>opt (if fits ds.length then some (.own ds) else none)
theorem new_own {K:PySem.W.Frag} {w0 w:Wd} (g:Gr w0 w) (ok:w.Ok) {ds:List D} {vs:List V} (r:ak K w ds vs) {p:Addr} (h:w.H p=none) :
  Al w { w with H:=upd w.H p (.lst vs) }∧iW K w0 { w with H:=upd w.H p (.lst vs) } (.own ds) (.ref p):=by
 have a:=Al.tup ok h (.lst vs)
 refine ⟨a,p,vs,rfl,upd_same,⟨fun z=>?_,fun z=>?_,.inr (g.fresh h)⟩,ak.mono a.keep ok _ _ r⟩
 ·obtain ⟨o,e⟩:=ok.trk p z
  rw [h] at e; cases e
 ·have:=ok.mu p z
  rw [h] at this; exact this
theorem cP {m:M (List D)} (h:uK X es m):PF X (.List es pos) (dR m):=by
 obtain ⟨t,p,s⟩:=h.ex
 refine ⟨fun W=>tLst (t W),fun j pn xe W tk pw=>pe_lst (p j pn xe W tk pw),fun W=>?_⟩
 refine (s W).bnd (k:=fun xs σ H Q=>xs.length≤sizeLine∧∀ p,H p=none→Q (V.ref p) (upd H p (.lst xs))) fun σ w w1 sm1 ds vs ok g1 s1 r1=>?_
 refine aD.opt s1 fun d hd Q q=>?_
 split at hd
 ·rename_i hf
  cases hd
  refine ⟨by rw [← r1.len]; exact dJ hf,fun p hp=>?_⟩
  obtain ⟨al,rr⟩:=new_own g1 s1.ok r1 hp
  exact q _ _ al rr
 ·cases hd
end
def toKey:D→Option Key
 | .int i=>some (.inl i)
 | .str x=>some (.inr x)
 | _=>none
def look:List Key→List D→Key→Option D
 | k :: ks,d :: ds,x=>if k=x then some d else look ks ds x
 | _,_,_=>none
theorem DGet.r {H:Hp} {a:Addr} {kvs:List (Key × V)} {k:Key} (e:Rd H a (.dK kvs)):DGet H a (kV k) (valV kvs k):=.inl ⟨kvs,k,e,rfl,rfl⟩
def D.ix:D→D→Option D
 | .lst xs,.int i=>atI xs i
 | .tup xs,.int i=>atI xs i
 | .scr ns,.int i=>(atI ns i).map .int
 | .str z,.int i=>if fits z.length then (atI z.cps.toList i).map fun c=>.str ⟨#[c]⟩ else none
 | .dic ks ds,k=>(toKey k).bind (look ks ds)
 | _,_=>none
def rIxD:R2:=fun x y H Q=>∃ a v,x = .ref a∧DGet H a y (some v)∧Q v H
theorem wV {X:Cx} (hu:X.A.units+1 < cLine):IxR X rIxD:=by
 intro value slice pins s σ H x y v u Q I rx ry h hs
 obtain ⟨a,z,rfl,g,q⟩:=h
 obtain rfl:v=Value.ref a:=rx
 exact tail_any (dict_typeIs I g) PySem.F.slot_dict_getitem.lookup (d_getItem hu I g ry fun w' s3 I3 rw'=>⟨z,H,I3,rw',q⟩) hs
def tW (K:PySem.W.Frag):R2:=fun x y H Q=>((rIxL K x y H Q∨rIxT K x y H Q)∨rIxS x y H Q)∨rIxD x y H Q
theorem yC {X:Cx} (hu:X.A.units+1 < cLine):IxR X (tW X.K):=IxR.or (IxR.or (IxR.or ix_list ix_tup) ix_str) (wV hu)
theorem ak.atI {K:PySem.W.Frag} {w:Wd} {ds:List D} {vs:List V} {i:Int} {d:D} (r:ak K w ds vs) (h:atI ds i=some d):∃ v,L2.atI vs i=some v∧Rep K w d v:=by
 unfold L2.atI at h ⊢
 rw [← r.len]
 cases hn:ixN ds.length i with
 | none=>rw [hn] at h; cases h
 | some j =>
  rw [hn] at h
  obtain ⟨v,e,q⟩:=r.get (i:=j) (by simpa using h)
  exact ⟨v,by simpa using e,q⟩
theorem nY {K:PySem.W.Frag} {w:Wd} {d:D} {v:V} {k:Key} (h:toKey d=some k) (r:aP K w d v):v=kV k:=by
 cases d <;> first | (simp [toKey] at h; done) | skip
 ·cases h; exact aN r
 ·cases h; exact bY r
theorem qm {K:PySem.W.Frag} {w:Wd} {k:Key} {d:D}:∀ {ks:List Key} {ds:List D} {vs:List V},ak K w ds vs→look ks ds k=some d→∃ v,valV (ks.zip vs) k=some v∧Rep K w d v
 | [],ds,vs,r,h=>by simp [look] at h
 | k' :: ks,[],vs,r,h=>by simp [look] at h
 | k' :: ks,d' :: ds,vs,r,h=>by
  unfold ak at r
  obtain ⟨v,q,rfl,r1,r2⟩:=r
  simp only [look] at h
  split at h
  ·rename_i e
   cases h
   exact ⟨v,by rw [List.zip_cons_cons]; exact valV_pos e,r1⟩
  ·rename_i e
   obtain ⟨v',e1,r3⟩:=qm r2 h
   exact ⟨v',by rw [List.zip_cons_cons,valV_neg e]; exact e1,r3⟩
theorem uL (K:PySem.W.Frag):fj K (tW K) D.ix:=by
 intro w x y vx vy z ok rx ry h Q q
 unfold D.ix at h
 split at h
 ·obtain ⟨a,vs,rfl,h1,r1⟩:=iQ rx
  cases aN ry
  obtain ⟨v,e,r⟩:=r1.atI h
  exact .inl (.inl (.inl ⟨a,vs,_,v,rfl,rfl,SqL.of h1,e,q _ w (Al.refl ok) r⟩))
 ·obtain ⟨a,vs,rfl,h1,r1⟩:=fY rx
  cases aN ry
  obtain ⟨v,e,r⟩:=r1.atI h
  exact .inl (.inl (.inr ⟨a,vs,_,v,rfl,rfl,h1,e,q _ w (Al.refl ok) r⟩))
 ·rename_i ns i
  unfold aP Rep at rx
  obtain ⟨a,rfl,h1⟩:=rx
  have hS:SqL K w.H a (ns.map V.int):=h1.elim (fun z=>.inl z.1) .inr
  cases aN ry
  cases hn:atI ns i with
  | none=>rw [hn] at h; cases h
  | some n =>
   rw [hn] at h
   cases h
   have e:L2.atI (ns.map V.int) i=some (.int n):=by
    unfold L2.atI at hn ⊢
    rw [List.length_map]
    cases hj:ixN ns.length i with
    | none=>rw [hj] at hn; cases hn
    | some j =>
     rw [hj] at hn
     simp only [Option.bind_some] at hn ⊢
     rw [List.getElem?_map,hn]; rfl
   exact .inl (.inl (.inl ⟨a,_,_,_,rfl,rfl,hS,e,q _ w (Al.refl ok) aW⟩))
 ·rename_i zz i
  split at h
  ·rename_i hf
   cases bY rx
   cases aN ry
   cases hn:atI zz.cps.toList i with
   | none=>rw [hn] at h; cases h
   | some c =>
    rw [hn] at h
    cases h
    exact .inl (.inr ⟨zz,i,c,rfl,rfl,dJ hf,hn,q _ w (Al.refl ok) fB⟩)
  ·cases h
 ·rename_i ks ds
  obtain ⟨a,vs,rfl,h1,hl,r1⟩:=rx
  cases hk:toKey y with
  | none=>rw [hk] at h; cases h
  | some k =>
   rw [hk] at h
   obtain ⟨v,e,r⟩:=qm r1 h
   cases nY hk ry
   exact .inr ⟨a,v,rfl,by rw [← e]; exact DGet.r h1,q _ w (Al.refl ok) r⟩
 ·cases h
section
variable {X:Cf} {a b:Expr} {ma mb:M D} {pos:Pos}
theorem wC {k:Nat} (hr:Room k X.A) (ha:PM X a ma) (hb:PB X b mb) (hs:PlainIx b):PM X (.Subscript a b pos) (m2 D.ix ma mb):=by
 obtain ⟨ta,pa,sa⟩:=ha.ex
 obtain ⟨tb,pb,sb⟩:=hb.ex
 exact ⟨fun W=>tOp (tW X.K) (ta W) (tb W),fun j pn xe W tk pw=>pe_ix (yC (X:=X.at j pn xe) (hu_of hr)) (pa j pn xe W tk pw) (pb j pn xe W tk pw) hs,fun W=>nU (uL X.K) (sa W) (sb W)⟩
theorem dX {k:Nat} (hr:Room k X.A) (i:Nat) {x:Str} {p:Pos} (hb:PB X b mb) (hs:PlainIx b) (hN:X.N[i]? = some x:=by rfl)
  (hv:∀ j,Vis (X.env j).scope x:=by intro _; first | exact Or.inl rfl | exact Or.inr (Or.inl rfl) | exact Or.inr (Or.inr rfl)) (hd:(x == ("__debug__" : Str))=false:=by decide) (hcd:(x == ("__classdict__" : Str))=false:=by decide):PM X (.Subscript (.Name x p) b pos) (aM D.ix i mb):=by
 obtain ⟨tb,pb,sb⟩:=hb.ex
 exact ⟨fun W=>tOp (tW X.K) (tVar i) (tb W),fun j pn xe W tk pw=>pe_ix (yC (X:=X.at j pn xe) (hu_of hr)) (pe_var hN (hv j) hd hcd) (pb j pn xe W tk pw) hs,fun W=>jH (uL X.K) (sb W)⟩
end
def oZ (K:PySem.W.Frag) (r:List V→Hp→VK→Prop) (f:D→Option D):Prop :=
 ∀ (w:Wd) (x:D) (vx:V) (z:D),w.Ok→aP K w x vx→f x=some z→∀ Q:VK,(∀ v w',Al w w'→Rep K w' z v→Q v w'.H)→r [vx] w.H Q
def wD (K:PySem.W.Frag) (r:List V→Hp→VK→Prop) (f:D→D→Option D):Prop :=
 ∀ (w:Wd) (x y:D) (vx vy:V) (z:D),w.Ok→aP K w x vx→aP K w y vy→f x y=some z→∀ Q:VK,(∀ v w',Al w w'→Rep K w' z v→Q v w'.H)→r [vx,vy] w.H Q
def m1 (f:D→Option D) (a:M D):M D:=bnd a fun x=>opt (f x)
section
variable {X:Cf} {x:Str} {e e2:Expr} {p pos:Pos} {id:String} {r:List V→Hp→VK→Prop} {f:D→Option D} {g:D→D→Option D} {m n:M D}
theorem uM {W:WX} {t:TE} (ho:oZ X.K r f) (h:aR X W (RB X.K) t m):aR X W (RV X.K) (tCB r (tCons t tNil)) (m1 f m):=by
 refine h.bnd (k:=fun x σ H Q=>r [x] H Q) fun σ w w1 sm1 d v ok g1 s1 r1=>?_
 exact aD.opt s1 fun z hz Q q=>ho w1 d v z s1.ok r1 hz Q q
theorem yD {W:WX} {t t2:TE} (ho:wD X.K r g) (h:aR X W (RV X.K) t m) (h2:aR X W (RB X.K) t2 n):aR X W (RV X.K) (tCB r (tCons t (tCons t2 tNil))) (m2 g m n):=by
 refine h.bnd (k:=fun x σ H Q=>t2 σ H fun y H2=>r [x,y] H2 Q) fun σ w w1 sm1 d v ok g1 s1 r1=>?_
 refine (h2 σ w1 sm1 s1).seq fun w2 sm2 y vy g2 s2 r2=>?_
 exact aD.opt s2 fun z hz Q q=>ho w2 d y v vy z s2.ok (Rep.b (Rep.mono g2.toKeep s1.ok _ _ r1)) r2 hz Q q
theorem iI (hr:∀ j pn xe,CallR (X.at j pn xe) (.builtin id) r) (ho:oZ X.K r f) (hg:∀ j,(X.env j).kindOf x=some .globalImplicit) (hm:X.mg x=none) (hv:bootBuiltins x=some (.builtin id)) (h:PB X e m) (hn:x≠"__name__":=by decide) (hdb:(x == ("__debug__" : Str))=false:=by decide)
  (he:∀ j,starEach [e] (X.env j)=(false,eval e (X.env j)) :: starEach [] (X.env j):=by intro _; rfl):PM X (.Call (.Name x p) [e] [] pos) (m1 f m):=by
 obtain ⟨t,q,s⟩:=h.ex
 exact ⟨fun W=>tCB r (tCons (t W) tNil),fun j pn xe W tk pw=>pe_callB (hr j pn xe) (hg j) hm hv (pa_cons (q j pn xe W tk pw) pa_nil (he j)) hn hdb (he j),fun W=>uM ho (s W)⟩
theorem Ay {T:String} (hr:∀ j pn xe,CallR (X.at j pn xe) (.type T) r) (ho:oZ X.K r f) (hg:∀ j,(X.env j).kindOf x=some .globalImplicit) (hm:X.mg x=none) (hv:bootBuiltins x=some (.type T)) (h:PB X e m) (hn:x≠"__name__":=by decide) (hdb:(x == ("__debug__" : Str))=false:=by decide)
  (he:∀ j,starEach [e] (X.env j)=(false,eval e (X.env j)) :: starEach [] (X.env j):=by intro _; rfl):PM X (.Call (.Name x p) [e] [] pos) (m1 f m):=by
 obtain ⟨t,q,s⟩:=h.ex
 exact ⟨fun W=>tCB r (tCons (t W) tNil),fun j pn xe W tk pw=>pe_callTy (hr j pn xe) (hg j) hm hv (pa_cons (q j pn xe W tk pw) pa_nil (he j)) hn hdb (he j),fun W=>uM ho (s W)⟩
theorem wF (hr:∀ j pn xe,CallR (X.at j pn xe) (.builtin id) r) (ho:wD X.K r g) (hg:∀ j,(X.env j).kindOf x=some .globalImplicit) (hm:X.mg x=none) (hv:bootBuiltins x=some (.builtin id)) (h:PM X e m) (h2:PB X e2 n) (hn:x≠"__name__":=by decide) (hdb:(x == ("__debug__" : Str))=false:=by decide)
  (he:∀ j,starEach [e,e2] (X.env j)=(false,eval e (X.env j)) :: starEach [e2] (X.env j):=by intro _; rfl) (he2:∀ j,starEach [e2] (X.env j)=(false,eval e2 (X.env j)) :: starEach [] (X.env j):=by intro _; rfl) (hpl:∀ j,(backTo pos (starEach [e2] (X.env j))).any (·.1)=false:=by intro _; rfl):PM X (.Call (.Name x p) [e,e2] [] pos) (m2 g m n):=by
 obtain ⟨t,q,s⟩:=h.ex
 obtain ⟨t2,q2,s2⟩:=h2.ex
 exact ⟨fun W=>tCB r (tCons (t W) (tCons (t2 W) tNil)),fun j pn xe W tk pw=>pe_callB (hr j pn xe) (hg j) hm hv (pa_cons (q j pn xe W tk pw) (pa_cons (q2 j pn xe W tk pw) pa_nil (he2 j)) (he j)) hn hdb (he j) (hpl j),fun W=>yD ho (s W) (s2 W)⟩
end
def D.len:D→Option D
 | .str x=>if fits x.length then some (.int x.length) else none
 | .lst xs=>some (.int xs.length)
 | .tup xs=>some (.int xs.length)
 | .scr ns=>some (.int ns.length)
 | .dic ks ds=>some (.int ds.length)
 | _=>none
def wG (K:PySem.W.Frag):List V→Hp→VK→Prop:=fun xs H Q=>(∃ x n,xs=[x]∧LenV K x H n∧Q (.int n) H)∨∃ a kvs,xs=[V.ref a]∧Rd H a (.dK kvs)∧Q (.int kvs.length) H
theorem uN {X:Cx}:CallR X (.builtin "len") (fun xs H Q=>∃ a kvs,xs=[V.ref a]∧Rd H a (.dK kvs)∧Q (.int kvs.length) H):=by
 intro pins s σ H xs us Q I r h
 obtain ⟨a,kvs,rfl,ha,q⟩:=h
 obtain ⟨u,rfl,ru⟩:=vals1 r
 cases ru
 exact d_len I ha fun t s' I'=>⟨.int kvs.length,H,I',⟨t,rfl⟩,q⟩
theorem lD {X:Cx}:CallR X (.builtin "len") (wG X.K):=CallR.or call_len uN
theorem mU (K:PySem.W.Frag):oZ K (wG K) D.len:=by
 intro w x vx z ok rx h Q q
 unfold D.len at h
 split at h
 ·split at h
  ·rename_i hf
   cases h
   cases bY rx
   exact .inl ⟨_,_,rfl,⟨dJ hf,rfl⟩,q _ w (Al.refl ok) aW⟩
  ·cases h
 ·obtain ⟨a,vs,rfl,h1,r1⟩:=iQ rx
  cases h
  rw [r1.len] at q
  exact .inl ⟨_,_,rfl,.inl ⟨vs,SqL.of h1,rfl⟩,q _ w (Al.refl ok) aW⟩
 ·obtain ⟨a,vs,rfl,h1,r1⟩:=fY rx
  cases h
  rw [r1.len] at q
  exact .inl ⟨_,_,rfl,.inr ⟨vs,h1,rfl⟩,q _ w (Al.refl ok) aW⟩
 ·unfold aP Rep at rx
  obtain ⟨a,rfl,h1⟩:=rx
  cases h
  refine .inl ⟨_,_,rfl,.inl ⟨_,h1.elim (fun z=>.inl z.1) .inr,rfl⟩,?_⟩
  rw [List.length_map]
  exact q _ w (Al.refl ok) aW
 ·obtain ⟨a,vs,rfl,h1,hl,r1⟩:=rx
  cases h
  refine .inr ⟨_,_,rfl,h1,?_⟩
  rw [List.length_zip,← r1.len,hl,Nat.min_self]
  exact q _ w (Al.refl ok) aW
 ·cases h
def D.abs:D→Option D
 | .int i=>some (.int (if i < 0 then -i else i))
 | _=>none
theorem yE (K:PySem.W.Frag):oZ K (fun xs H Q=>∃ i,xs=[.int i]∧Q (.int (if i < 0 then -i else i)) H) D.abs:=by
 intro w x vx z ok rx h Q q
 unfold D.abs at h
 split at h
 ·cases h; cases aN rx; exact ⟨_,rfl,q _ w (Al.refl ok) aW⟩
 ·cases h
def D.max:D→D→Option D
 | .int i,.int j=>some (.int (if j > i then j else i))
 | _,_=>none
def D.min:D→D→Option D
 | .int i,.int j=>some (.int (if j < i then j else i))
 | _,_=>none
theorem yF (K:PySem.W.Frag):wD K (fun xs H Q=>∃ i j,xs=[.int i,.int j]∧Q (.int (if j > i then j else i)) H) D.max:=by
 intro w x y vx vy z ok rx ry h Q q
 unfold D.max at h
 split at h
 ·cases h; cases aN rx; cases aN ry; exact ⟨_,_,rfl,q _ w (Al.refl ok) aW⟩
 ·cases h
theorem yG (K:PySem.W.Frag):wD K (fun xs H Q=>∃ i j,xs=[.int i,.int j]∧Q (.int (if j < i then j else i)) H) D.min:=by
 intro w x y vx vy z ok rx ry h Q q
 unfold D.min at h
 split at h
 ·cases h; cases aN rx; cases aN ry; exact ⟨_,_,rfl,q _ w (Al.refl ok) aW⟩
 ·cases h
def D.toInt:D→Option D
 | .int i=>some (.int i)
 | .bl k=>some (.int (if k then 1 else 0))
 | .str a=>if a.length≤640 then (PySem.intText? a).map .int else none
 | _=>none
def wH:List V→Hp→VK→Prop:=fun xs H Q=>((∃ i,xs=[.int i]∧Q (.int i) H)∨∃ k,xs=[.bl k]∧Q (.int (if k then 1 else 0)) H)∨∃ a n,xs=[.str a]∧PySem.intText? a=some n∧a.length≤640∧Q (.int n) H
theorem wW {X:Cx}:CallR X (.type "int") wH:=CallR.or call_int1 call_int_str
theorem yH (K:PySem.W.Frag):oZ K wH D.toInt:=by
 intro w x vx z ok rx h Q q
 unfold D.toInt at h
 split at h
 ·cases h; cases aN rx; exact .inl (.inl ⟨_,rfl,q _ w (Al.refl ok) aW⟩)
 ·cases h; cases gQ rx; exact .inl (.inr ⟨_,rfl,q _ w (Al.refl ok) aW⟩)
 ·rename_i a
  split at h
  ·rename_i hl
   cases hn:PySem.intText? a with
   | none=>rw [hn] at h; cases h
   | some n =>
    rw [hn] at h; cases h; cases bY rx
    exact .inr ⟨a,n,rfl,hn,hl,q _ w (Al.refl ok) aW⟩
  ·cases h
 ·cases h
end Mir
namespace Mir
open PySem PySem.Spec PyProof.Rows L2
def KS (ks:List Nat) (σ σ' : L2.St):Prop:=∀ i∈ks,σ'[i]? = σ[i]?
theorem KS.refl {ks:List Nat} {σ:L2.St}:KS ks σ σ:=fun _ _=>rfl
theorem KS.trans {ks:List Nat} {σ σ1 σ2:L2.St} (a:KS ks σ σ1) (b:KS ks σ1 σ2):KS ks σ σ2:=fun i h=>(b i h).trans (a i h)
theorem KS.set {ks:List Nat} {σ:L2.St} {i:Nat} {o:Option V} (h:i∉ks):KS ks σ (σ.set i o):=fun j hj=>List.getElem?_set_ne (fun e=>h (by rw [e]; exact hj))
def lW (X:Cf) (ks:List Nat) (σ:L2.St) (w:Wd) (sm' : Sg) (D:Ends):Fl→Prop
 | .nx=>∀ σ' w',Gr w w'→SR X.K w' sm' σ'→KS ks σ σ'→D.nx σ' w'.H
 | .bk=>∀ σ' w',Gr w w'→SR X.K w' sm' σ'→KS ks σ σ'→D.bk σ' w'.H
 | .ct=>∀ σ' w',Gr w w'→SR X.K w' sm' σ'→KS ks σ σ'→D.ct σ' w'.H
 | .rt t=>∀ v σ' w',Gr w w'→SR X.K w' sm' σ'→KS ks σ σ'→iW X.K w w' t v→D.rt v w'.H
def XW (X:Cf) (W:WX) (ks:List Nat) (σ:L2.St) (w:Wd) (sm' : Sg) (c:Str) (fs:List (Str × D)):Prop :=
 ∀ σ' w' cls d,Gr w w'→SR X.K w' sm' σ'→KS ks σ σ'→XR X.K X.mg w' c fs cls d→W cls d σ' w'.H
def dB (X:Cf) (W:WX) (ks:List Nat) (k:Ends→Prop) (σ:L2.St) (w:Wd):R Fl→Prop
 | .fail=>True
 | .ok fl sm'=>∀ D:Ends,lW X ks σ w sm' D fl→k D
 | .exc c fs sm'=>XW X W ks σ w sm' c fs→∀ D,k D
def kh (X:Cf) (W:WX) (ks:List Nat) (t:TS) (m:M Fl):Prop:=∀ σ w sm,SR X.K w sm σ→dB X W ks (fun D=>t D σ w.H) σ w (m sm)
structure jo (X:Cf) (ks:List Nat) (st:Stmt) (m:M Fl):Prop where
 ex:∃ t:WX→TS,(∀ j pn xe W,Takes (X.at j pn xe) W→iY X j xe→PS (X.at j pn xe) st (t W))∧∀ W,kh X W ks (t W) m
structure cD (X:Cf) (ks:List Nat) (sts:List Stmt) (m:M Fl):Prop where
 ex:∃ t:WX→TS,(∀ j pn xe W,Takes (X.at j pn xe) W→iY X j xe→PSs (X.at j pn xe) sts (t W))∧∀ W,kh X W ks (t W) m
section
variable {X:Cf} {W:WX} {ks:List Nat}
theorem lW.shift {σ σ1:L2.St} {w w1:Wd} {sm' : Sg} {D:Ends} {fl:Fl} (g:Gr w w1) (o1:w1.Ok) (k1:KS ks σ σ1) (h:lW X ks σ w sm' D fl):lW X ks σ1 w1 sm' D fl:=by
 cases fl with
 | nx=>exact fun σ' w' g2 s2 k2=>h σ' w' (g.trans o1 g2) s2 (k1.trans k2)
 | bk=>exact fun σ' w' g2 s2 k2=>h σ' w' (g.trans o1 g2) s2 (k1.trans k2)
 | ct=>exact fun σ' w' g2 s2 k2=>h σ' w' (g.trans o1 g2) s2 (k1.trans k2)
 | rt t=>exact fun v σ' w' g2 s2 k2 r2=>h v σ' w' (g.trans o1 g2) s2 (k1.trans k2) (r2.back g o1)
theorem XW.shift {σ σ1:L2.St} {w w1:Wd} {sm' : Sg} {c:Str} {fs:List (Str × D)} (g:Gr w w1) (o1:w1.Ok) (k1:KS ks σ σ1) (h:XW X W ks σ w sm' c fs):XW X W ks σ1 w1 sm' c fs :=
 fun σ' w' cls d g2 s2 k2 x=>h σ' w' cls d (g.trans o1 g2) s2 (k1.trans k2) x
theorem aD.st {α γ:Type} {Ra:Wd→α→γ→Prop} {ka:(γ→Hp→Prop)→Prop} {kb:γ→Hp→Ends→Prop} {σ:L2.St} {w:Wd} {ra:R α} {f:α→M Fl}
  (ha:aD X W Ra ka σ w ra)
  (hb:∀ w1 sm1 a g,Gr w w1→SR X.K w1 sm1 σ→Ra w1 a g→dB X W ks (fun D=>kb g w1.H D) σ w1 (f a sm1)) :
  dB X W ks (fun D=>ka fun g H1=>kb g H1 D) σ w (bK ra f):=by
 cases ra with
 | fail=>exact trivial
 | exc c fs sm'=>exact fun h D=>ha (fun w' cls d g s x=>h σ w' cls d g s KS.refl x) _
 | ok a sm1 =>
  show dB X W ks _ σ w (f a sm1)
  cases hf:f a sm1 with
  | fail=>exact trivial
  | ok fl sm2 =>
   intro D e
   refine ha _ fun g w1 g1 s1 r1=>?_
   have h:=hb w1 sm1 a g g1 s1 r1
   rw [hf] at h
   exact h D (e.shift g1 s1.ok KS.refl)
  | exc c fs sm2 =>
   intro e D
   refine ha _ fun g w1 g1 s1 r1=>?_
   have h:=hb w1 sm1 a g g1 s1 r1
   rw [hf] at h
   exact h (e.shift g1 s1.ok KS.refl) D
theorem dB.nx {k:Ends→Prop} {σ σ' : L2.St} {w:Wd} {sm' : Sg} (s:SR X.K w sm' σ') (ks' : KS ks σ σ') (h:∀ D:Ends,D.nx σ' w.H→k D):dB X W ks k σ w (.ok .nx sm'):=fun D e=>h D (e σ' w (Gr.refl w) s ks')
def aJ (m n:M Fl):M Fl:=bnd m fun fl=>match fl with
 | .nx=>n
 | fl=>ret fl
def eY:M Fl:=ret .nx
theorem wX {t u:TS} {m n:M Fl} (h:kh X W ks t m) (h2:kh X W ks u n):kh X W ks (tSeq t u) (aJ m n):=fun σ w sm hs=>by
 have q:=h σ w sm hs
 show dB X W ks _ σ w (bK (m sm) _)
 cases hm:m sm with
 | fail=>exact trivial
 | exc c fs sm'=>rw [hm] at q; exact fun e D=>q e _
 | ok fl sm1 =>
  rw [hm] at q
  cases fl with
  | nx =>
   show dB X W ks _ σ w (n sm1)
   cases hn:n sm1 with
   | fail=>exact trivial
   | ok fl2 sm2 =>
    intro D e
    refine q { D with nx:=u D } fun σ1 w1 g1 s1 k1=>?_
    have q2:=h2 σ1 w1 sm1 s1
    rw [hn] at q2
    exact q2 D (e.shift g1 s1.ok k1)
   | exc c fs sm2 =>
    intro e D
    refine q { D with nx:=u D } fun σ1 w1 g1 s1 k1=>?_
    have q2:=h2 σ1 w1 sm1 s1
    rw [hn] at q2
    exact q2 (e.shift g1 s1.ok k1) D
  | bk=>exact fun D e=>q { D with nx:=u D } e
  | ct=>exact fun D e=>q { D with nx:=u D } e
  | rt t=>exact fun D e=>q { D with nx:=u D } e
theorem cI:cD X ks [] eY:=⟨fun _=>tNext,fun j pn xe W tk pw=>pss_nil,fun W σ w sm hs=>dB.nx hs KS.refl fun D q=>q⟩
theorem au {st:Stmt} {rest:List Stmt} {m n:M Fl} (h:jo X ks st m) (h2:cD X ks rest n):cD X ks (st :: rest) (aJ m n):=by
 obtain ⟨t,p,s⟩:=h.ex
 obtain ⟨t2,p2,s2⟩:=h2.ex
 exact ⟨fun W=>tSeq (t W) (t2 W),fun j pn xe W tk pw=>pss_cons (p j pn xe W tk pw) (p2 j pn xe W tk pw),fun W=>wX (s W) (s2 W)⟩
theorem aF {st:Stmt} {m:M Fl} (h:jo X ks st m):cD X ks [st] m:=by
 obtain ⟨t,p,s⟩:=h.ex
 exact ⟨t,fun j pn xe W tk pw=>pss_one (p j pn xe W tk pw),s⟩
def pP (m:M D):M Fl:=bnd m fun _=>ret .nx
theorem lX {e:Expr} {m:M D} {pos:Pos} (h:PM X e m) (hs:∀ j,swapsWith e none pos.line (X.env j)=pure false:=by intro _; rfl):jo X ks (.Expr e pos) (pP m):=by
 obtain ⟨t,p,s⟩:=h.ex
 refine ⟨fun W=>tDrop (t W),fun j pn xe W tk pw=>ps_expr (p j pn xe W tk pw) (hs j),fun W σ w sm hs=>?_⟩
 exact (s W σ w sm hs).st (kb:=fun _ H D=>D.nx σ H) fun w1 sm1 a g g1 s1 r1=>dB.nx s1 KS.refl fun D q=>q
def cG (m:M T):M Fl:=bnd m fun t=>ret (.rt t)
theorem bf {e:Expr} {m:M T} {pos:Pos} (h:PF X e m):jo X ks (.Return (some e) pos) (cG m):=by
 obtain ⟨t,p,s⟩:=h.ex
 refine ⟨fun W=>tRet (t W),fun j pn xe W tk pw=>ps_ret (p j pn xe W tk pw),fun W σ w sm hs=>?_⟩
 have q:=s W σ w sm hs
 show dB X W ks _ σ w (bK (m sm) _)
 cases hm:m sm with
 | fail=>exact trivial
 | exc c fs sm'=>rw [hm] at q; exact fun e D=>q (fun w' cls d g s x=>e σ w' cls d g s KS.refl x) _
 | ok r sm1=>rw [hm] at q; exact fun D e=>q D.rt fun v w' g1 s1 r1=>e v σ w' g1 s1 KS.refl r1
def gM (i:Nat):M T:=fun sm=>match sm[i]? with
 | some (some (.val d))=>.ok (.val d) sm
 | some (some (.sto _))=>.ok (.val .non) sm
 | some (some t)=>.ok t (sm.set i none)
 | _=>.fail
def Wd.drop (w:Wd) (a:Addr):Wd:={ w with O:=fun b=>w.O b∧b≠a }
theorem Wd.Ok.drop {w:Wd} (ok:w.Ok) (a:Addr):(w.drop a).Ok:=⟨fun b f o=>ok.apart b f o.1,fun b o=>ok.mu b o.1,ok.trk,ok.inj,ok.fix⟩
theorem Gr.drop {w:Wd} (a:Addr):Gr w (w.drop a):=⟨⟨fun b o h _=>h,fun b f=>f,fun _ _ h=>h⟩,fun b h=>h.elim .inl fun z=>.inr (.inl z.1),fun b o h=>⟨o,h⟩,rfl⟩
theorem SR.move {K:PySem.W.Frag} {w:Wd} {sm:Sg} {σ:L2.St} (s:SR K w sm σ) {i:Nat} {a:Addr} {t:T} (ht:sm[i]? = some (some t)) (to:t.owned=true) (hv:σ[i]? = some (some (.ref a))):SR K (w.drop a) (sm.set i none) σ:=by
  have k:Keep w (w.drop a):=(Gr.drop a).toKeep
  refine ⟨s.ok.drop a,by simpa using s.len,fun j u h=>?_,fun b c u u' v ne h1 h2 o1 o2 e1=>?_,fun b c u os x n h1 o1 h2 e1 hl=>?_⟩
  · by_cases hj:i=j
    · subst hj
      rw [List.getElem?_set_self (List.getElem?_eq_some_iff.mp ht).1] at h
      cases h
    · rw [List.getElem?_set_ne hj] at h
      obtain ⟨v,e,r⟩:=s.slot j u h
      refine ⟨v,e,?_⟩
      by_cases ou:u.owned=true
      · exact r.keepS k s.ok fun b eb ob => ⟨⟨ob, fun z => by
          subst z
          exact s.apart hj ht h to ou hv e (.inl rfl) eb⟩,rfl⟩
      · cases u with
        | val d'=>exact Rep.mono k s.ok d' v r
        | own xs=>exact absurd rfl ou
        | owd kvs=>exact absurd rfl ou
        | sto kvs=>exact absurd rfl ou
  · by_cases hb:i=b
    · subst hb
      rw [List.getElem?_set_self (List.getElem?_eq_some_iff.mp ht).1] at h1
      cases h1
    · by_cases hc:i=c
      · subst hc
        rw [List.getElem?_set_self (List.getElem?_eq_some_iff.mp ht).1] at h2
        cases h2
      · rw [List.getElem?_set_ne hb] at h1
        rw [List.getElem?_set_ne hc] at h2
        exact s.dis b c u u' v ne h1 h2 o1 o2 e1
  · by_cases hb:i=b
    · subst hb
      rw [List.getElem?_set_self (List.getElem?_eq_some_iff.mp ht).1] at h1
      cases h1
    · by_cases hc:i=c
      · subst hc
        rw [List.getElem?_set_self (List.getElem?_eq_some_iff.mp ht).1] at h2
        cases h2
      · rw [List.getElem?_set_ne hb] at h1
        rw [List.getElem?_set_ne hc] at h2
        exact s.sep b c u os x n h1 o1 h2 e1 hl
theorem vL (i:Nat):aR X W (RT X.K) (tVar i) (gM i):=fun σ w sm hs=>by
 unfold gM
 split
 ·rename_i d h
  obtain ⟨v,e,r⟩:=hs.slot i _ h
  exact aD.now hs r fun Q q=>⟨v,e,q⟩
 ·rename_i os h
  obtain ⟨v,e,r,_⟩:=hs.slot i _ h
  exact aD.now hs (show Rep X.K w .non v from by unfold Rep; exact r) fun Q q=>⟨v,e,q⟩
 ·rename_i t nv nw h
  obtain ⟨v,e,r⟩:=hs.slot i _ h
  have to:t.owned=true:=by
   cases t with
   | val d=>exact absurd rfl (nv d)
   | sto d=>rfl
   | own xs=>rfl
   | owd kvs=>rfl
  intro Q q
  cases t with
  | val d=>exact absurd rfl (nv d)
  | sto d=>exact absurd rfl (nw d)
  | own xs =>
   obtain ⟨a,vs,rfl,h1,h2,h3⟩:=r
   exact ⟨_,e,q (.ref a) (w.drop a) (Gr.drop a) (hs.move h rfl e) ⟨a,vs,rfl,h1,⟨fun z=>hs.ok.apart a z h2,fun z=>z.2 rfl,.inl h2⟩,ak.mono (Gr.drop a).toKeep hs.ok _ _ h3⟩⟩
  | owd kvs =>
   obtain ⟨a,vs,rfl,h1,h2,h3⟩:=r
   exact ⟨_,e,q (.ref a) (w.drop a) (Gr.drop a) (hs.move h rfl e) ⟨a,vs,rfl,h1,⟨fun z=>hs.ok.apart a z h2,fun z=>z.2 rfl,.inl h2⟩,ak.mono (Gr.drop a).toKeep hs.ok _ _ h3⟩⟩
 ·exact trivial
theorem uO (i:Nat) {x:Str} {pos:Pos} (hN:X.N[i]? = some x:=by rfl) (hv:∀ j,Vis (X.env j).scope x:=by intro _; first | exact Or.inl rfl | exact Or.inr (Or.inl rfl) | exact Or.inr (Or.inr rfl)) (hd:(x == ("__debug__" : Str))=false:=by decide)
  (hcd:(x == ("__classdict__" : Str))=false:=by decide):PF X (.Name x pos) (gM i):=⟨fun _=>tVar i,fun j pn xe W tk pw=>pe_var hN (hv j) hd hcd,fun W=>vL i⟩
def Wd.take (w:Wd) (a:Addr):Wd:={ w with O:=fun b=>w.O b∨b=a }
theorem iW.take {K:PySem.W.Frag} {w w' : Wd} {t:T} {v:V} {sm:Sg} {σ:L2.St} (g:Gr w w') (s:SR K w' sm σ) (r:iW K w w' t v) :
    ∃ w2,Gr w w2∧SR K w2 sm σ∧aY K w2 t v∧w2.H=w'.H∧(t.owned=true→∀ (j:Nat) (u:T),sm[j]? = some (some u)→u.owned=true→σ[j]?≠some (some v))∧t.jm=false ∧
    (t.owned=true→∀ (k:Nat) (os:List Ob) (a:Addr) (n:Nat),sm[k]? = some (some (.sto os))→v = .ref a→n < os.length→w2.P n≠some a):=by
  have main:∀ (a:Addr) (o:HO),w'.H a=some o→Mut (some o)→jB w w' a→Gr w (w'.take a)∧SR K (w'.take a) sm σ∧Keep w' (w'.take a)∧(∀ (j:Nat) (u:T),sm[j]? = some (some u)→u.owned=true→σ[j]?≠some (some (V.ref a))) ∧
      (∀ (k:Nat) (os:List Ob) (b:Addr) (n:Nat),sm[k]? = some (some (.sto os))→V.ref a = .ref b→n < os.length→(w'.take a).P n≠some b):=fun a o h mu l=>by
    have k:Keep w' (w'.take a):=⟨fun b o h _=>h,fun b f=>f,fun _ _ h=>h⟩
    have ok:(w'.take a).Ok:=⟨fun b f ob=>ob.elim (s.ok.apart b f) fun e=>l.nf (e ▸ f),fun b ob=>ob.elim (s.ok.mu b) fun e=>by subst e; show Mut (w'.H b); rw [h]; exact mu,s.ok.trk,s.ok.inj,s.ok.fix⟩
    refine ⟨⟨⟨fun b o h n=>g.kept b o h n,g.fr,g.pr⟩,fun b h=>?_,g.there,g.zz⟩,⟨ok,s.len,fun j u hu=>?_,s.dis,s.sep⟩,k,fun j u hu ou e=>?_,fun kk os b n hk eb hl hp=>?_⟩
    · rcases h with h | h | h
      · exact g.back b (.inl h)
      · exact g.back b (.inr h)
      · subst h; exact .inr l.old
    · obtain ⟨v,e,r⟩:=s.slot j u hu
      exact ⟨v,e,r.keepS k s.ok (fun b eb ob=>⟨.inl ob,rfl⟩) (hB:=fun _ b od u hu z=>z.elim .inl fun q=>q.elim .inr fun q=>by subst q; rw [h] at hu; cases hu; exact absurd mu id)⟩
    · obtain ⟨v',e',r'⟩:=s.slot j u hu
      rw [e] at e'; cases e'
      exact l.no (r'.jc ou (.inl rfl))
    · cases eb
      exact l.no (s.tV hk hl hp h mu)
  cases t with
  | val d=>exact ⟨w',g,s,r,rfl,(fun z=>nomatch z),rfl,fun z=>nomatch z⟩
  | own xs =>
    obtain ⟨a,vs,rfl,h,l,q⟩:=r
    obtain ⟨h1,h2,k,h3,h4⟩:=main a _ h trivial l
    exact ⟨w'.take a,h1,h2,⟨a,vs,rfl,h,.inr rfl,ak.mono k s.ok _ _ q⟩,rfl,fun _=>h3,rfl,fun _=>h4⟩
  | owd kvs =>
    obtain ⟨a,vs,rfl,h,l,q⟩:=r
    obtain ⟨h1,h2,k,h3,h4⟩:=main a _ h trivial l
    exact ⟨w'.take a,h1,h2,⟨a,vs,rfl,h,.inr rfl,ak.mono k s.ok _ _ q⟩,rfl,fun _=>h3,rfl,fun _=>h4⟩
  | sto os=>exact r.elim
def bh (i:Nat) (m:M T):M Fl:=bnd m fun t sm=>.ok .nx (sm.set i (some t))
theorem sU {te:TE} {m:M T} (i:Nat) (hi:i∉ks) (h:aR X W (RT X.K) te m):kh X W ks (tAsg te (gName i)) (bh i m):=fun σ w sm hs=>by
 have q:=h σ w sm hs
 show dB X W ks _ σ w (bK (m sm) _)
 cases hm:m sm with
 | fail=>exact trivial
 | exc c fs sm'=>rw [hm] at q; exact fun e D=>q (fun w' cls d g s x=>e σ w' cls d g s KS.refl x) _
 | ok r sm1 =>
  rw [hm] at q
  intro D e
  refine q _ fun v w' g1 s1 r1=>?_
  obtain ⟨w2,g2,s2,r2,eH,hd,hns,hsp⟩:=r1.take g1 s1
  show D.nx (σ.set i (some v)) w'.H
  rw [← eH]
  exact e (σ.set i (some v)) w2 g2 (s2.put i r2 (fun o j u ne hu ou=>hd o j u hu ou) hns fun o k os a n _=>hsp o k os a n) (KS.set hi)
theorem aV {i:Nat} {x:Str} {e:Expr} {m:M T} {pos pos' : Pos} (h:PF X e m) (hN:X.N.Nodup) (hi:X.N[i]? = some x) (hx:∀ j,Loc (X.env j).scope x) (hk:i∉ks:=by decide) (hs:∀ j,swapsWith e (some (.Name x pos')) pos.line (X.env j)=pure false:=by intro _; rfl)
  (hf:∀ j,(X.v j).fn x=true∨(X.env j).scope.names.lookup x=some .local:=by intro _; first | exact .inl rfl | exact .inr rfl | assumption):jo X ks (.Assign [.Name x pos'] e pos) (bh i m):=by
 obtain ⟨t,p,s⟩:=h.ex
 exact ⟨fun W=>tAsg (t W) (gName i),fun j pn xe W tk pw=>ps_set hN hi (hx j) (p j pn xe W tk pw) (hs j) (hf j),fun W=>sU i hk (s W)⟩
def gU (t:M Bool) (m n:M Fl):M Fl:=bnd t fun b=>if b=true then m else n
theorem dF {c:Expr} {a b:List Stmt} {mt:M Bool} {m n:M Fl} {pos:Pos} (hc:sE X c mt) (ha:cD X ks a m) (hb:cD X ks b n):jo X ks (.If c a b pos) (gU mt m n):=by
 obtain ⟨tc,pc,sc⟩:=hc.ex
 obtain ⟨ta,pa,sa⟩:=ha.ex
 obtain ⟨tb,pb,sb⟩:=hb.ex
 refine ⟨fun W=>tIfS (tc W) (ta W) (tb W),fun j pn xe W tk pw=>ps_if (pc j pn xe W tk pw) (pa j pn xe W tk pw) (pb j pn xe W tk pw),fun W σ w sm hs=>?_⟩
 refine (sc W σ w sm hs).st (kb:=fun c H D=>if c=true then ta W D σ H else tb W D σ H) fun w1 sm1 c g g1 s1 r1=>?_
 subst r1
 cases c with
 | true=>exact sa W σ w1 sm1 s1
 | false=>exact sb W σ w1 sm1 s1
end
end Mir
namespace Mir
open PySem PySem.Spec PyProof.Rows L2
def Wd.wr (w:Wd) (a:Addr) (o:HO):Wd:={ w with H:=upd w.H a o }
theorem Keep.wr {w:Wd} {a:Addr} (oa:w.O a) (o:HO):Keep w (w.wr a o):=⟨fun b u h n=>by
 show upd w.H a o b=_
 rw [upd_ne (fun e=>n (by rw [e]; exact oa))]; exact h,fun b f=>f,fun _ _ h=>h⟩
theorem aY.ns {K:PySem.W.Frag} {w:Wd} {t:T} {a:Addr} (r:aY K w t (.ref a)):t.jm=false:=by
 cases t with
 | sto os=>cases r.1
 | _=>rfl
theorem Gr.wr {w:Wd} {a:Addr} (oa:w.O a) (o:HO):Gr w (w.wr a o):=⟨Keep.wr oa o,fun b h=>h.elim .inl fun z=>.inr (.inl z),fun b u h=>by
 by_cases e:b=a
 ·exact ⟨o,by show upd w.H a o b=_; rw [e]; exact upd_same⟩
 ·exact ⟨u,by show upd w.H a o b=_; rw [upd_ne e]; exact h⟩,rfl⟩
theorem Wd.Ok.wr {w:Wd} (ok:w.Ok) {a:Addr} {o:HO} (mu:Mut (some o)) (oa:w.O a):(w.wr a o).Ok:=⟨ok.apart,fun b ob=>by
 show Mut (upd w.H a o b)
 by_cases e:b=a
 ·rw [e,upd_same]; exact mu
 ·rw [upd_ne e]; exact ok.mu b ob,fun b f=>by
 obtain ⟨u,e⟩:=ok.trk b f
 exact (Gr.wr oa o).there b u e,ok.inj,ok.fix⟩
theorem SR.wr {K:PySem.W.Frag} {w:Wd} {sm:Sg} {σ:L2.St} (s:SR K w sm σ) {i:Nat} {a:Addr} {o:HO} {t t' : T} (ht:sm[i]? = some (some t)) (to:t.owned=true) (hv:σ[i]? = some (some (.ref a))) (oa:w.O a) (mu:Mut (some o))
    (r:aY K (w.wr a o) t' (.ref a)):SR K (w.wr a o) (sm.set i (some t')) σ:=by
  have k:=Keep.wr oa o
  have base:SR K (w.wr a o) (sm.set i none) σ:=by
    refine ⟨s.ok.wr mu oa,by simpa using s.len,fun j u h=>?_,fun b c u u' v ne h1 h2 o1 o2 e1=>?_,fun b c u os x n h1 o1 h2 e1 hl=>?_⟩
    · by_cases hj:i=j
      · subst hj
        rw [List.getElem?_set_self (List.getElem?_eq_some_iff.mp ht).1] at h
        cases h
      · rw [List.getElem?_set_ne hj] at h
        obtain ⟨v,e,r⟩:=s.slot j u h
        refine ⟨v,e,?_⟩
        by_cases ou:u.owned=true
        · exact r.keepS k s.ok fun b eb ob => ⟨ob, by
            show upd w.H a o b=_
            refine upd_ne fun z=>?_
            subst z
            exact s.apart hj ht h to ou hv e (.inl rfl) eb⟩
        · cases u with
          | val d'=>exact Rep.mono k s.ok d' v r
          | own xs=>exact absurd rfl ou
          | owd kvs=>exact absurd rfl ou
          | sto kvs=>exact absurd rfl ou
    · by_cases hb:i=b
      · subst hb
        rw [List.getElem?_set_self (List.getElem?_eq_some_iff.mp ht).1] at h1
        cases h1
      · by_cases hc:i=c
        · subst hc
          rw [List.getElem?_set_self (List.getElem?_eq_some_iff.mp ht).1] at h2
          cases h2
        · rw [List.getElem?_set_ne hb] at h1
          rw [List.getElem?_set_ne hc] at h2
          exact s.dis b c u u' v ne h1 h2 o1 o2 e1
    · by_cases hb:i=b
      · subst hb
        rw [List.getElem?_set_self (List.getElem?_eq_some_iff.mp ht).1] at h1
        cases h1
      · by_cases hc:i=c
        · subst hc
          rw [List.getElem?_set_self (List.getElem?_eq_some_iff.mp ht).1] at h2
          cases h2
        · rw [List.getElem?_set_ne hb] at h1
          rw [List.getElem?_set_ne hc] at h2
          exact s.sep b c u os x n h1 o1 h2 e1 hl
  have q:=base.put i r (fun _ j u ne hu ou e=>by
    rw [List.getElem?_set_ne (fun z=>ne z.symm)] at hu
    exact s.dis i j t u _ (fun z=>ne z.symm) ht hu to ou hv e) r.ns (fun _ k os b n ne hk eb hl hp=>by
    rw [List.getElem?_set_ne (fun z=>ne z.symm)] at hk
    cases eb
    exact s.sep i k t os a n ht to hk hv hl hp)
  rw [List.set_set,set_same hv] at q
  exact q
def Ce (K:PySem.W.Frag) (r:V→List V→Hp→VK→Prop) (f:T→D→Option (T × D)):Prop :=
 ∀ (w:Wd) (t:T) (d:D) (a:Addr) (vd:V) (t' : T) (z:D),w.Ok→w.O a→aY K w t (.ref a)→Rep K w d vd→f t d=some (t',z) →
  ∀ Q:VK,(∀ o v,Mut (some o)→aY K (w.wr a o) t' (.ref a)→Rep K (w.wr a o) z v→Q v (w.wr a o).H)→r (.ref a) [vd] w.H Q
def T.kind:T→String
 | .own _=>"list"
 | .owd _=>"dict"
 | .val _=>""
 | .sto _=>""
def sV (Ty:String) (f:T→D→Option (T × D)) (i:Nat) (m:M D):M D:=fun sm=>match sm[i]? with
  | some (some t0) => if t0.kind = Ty then bK (m sm) fun d sm1 => match sm1[i]? with
      | some (some t)=>if t.owned=true then (match f t d with
        | some (t',z)=>.ok z (sm1.set i (some t'))
        | none=>.fail) else .fail
      | _=>.fail
    else .fail
  | _=>.fail
theorem aY.tyV {K:PySem.W.Frag} {w:Wd} {t:T} {v:V} {Ty:String} (h:t.kind=Ty) (hn:Ty≠"") (r:aY K w t v):tyV K Ty v w.H∧t.owned=true∧∃ a,v = .ref a:=by
 cases t with
 | val d=>exact absurd h.symm hn
 | own xs=>obtain ⟨a,vs,rfl,h1,_⟩:=r; exact ⟨.inl ⟨h.symm,vs,SqL.of h1⟩,rfl,a,rfl⟩
 | owd kvs=>obtain ⟨a,vs,rfl,h1,_⟩:=r; exact ⟨.inr (.inr (.inl ⟨h.symm,.inl ⟨_,h1⟩⟩)),rfl,a,rfl⟩
 | sto os=>exact absurd h.symm hn
section
variable {X:Cf} {W:WX} {r:V→List V→Hp→VK→Prop}
theorem yI {Ty:String} {f:T→D→Option (T × D)} {i:Nat} {te:TE} {m:M D} (hn:Ty≠"") (ho:Ce X.K r f) (h:aR X W (RV X.K) te m):aR X W (RV X.K) (tBM X.K Ty r (tVar i) (tCons te tNil)) (sV Ty f i m):=fun σ w sm hs=>by
 unfold sV
 split
 ·rename_i t0 h0
  split
  ·rename_i hk
   obtain ⟨v,e,r0⟩:=hs.slot i t0 h0
   obtain ⟨ty,_,av,rfl⟩:=r0.tyV hk hn
   have q:=(h σ w sm hs).seq (Rb:=RV X.K σ w) (kb:=fun y H2 Q=>r (.ref av) [y] H2 Q) (f:=fun d sm1=>match sm1[i]? with
    | some (some t)=>if t.owned=true then (match f t d with
     | some (t',z)=>.ok z (sm1.set i (some t'))
     | none=>.fail) else .fail
    | _=>.fail) fun w2 sm2 d vd g2 s2 r2=>by
     split
     ·rename_i t h2
      split
      ·rename_i to
       split
       ·rename_i t' z hf
        obtain ⟨v2,e2,r3⟩:=s2.slot i t h2
        rw [e] at e2; cases e2
        obtain ⟨a,ea,oa⟩:=r3.pU to r3.ns; cases ea
        intro Q q
        exact ho w2 t d av vd t' z s2.ok oa r3 r2 hf Q fun o v' mu rt' rz=>q v' (w2.wr av o) (Gr.wr oa o) (s2.wr h2 to e oa mu rt') rz
       ·exact trivial
      ·exact trivial
     ·exact trivial
   revert q
   generalize bK (m sm) _=rr
   intro q
   cases rr with
   | fail=>exact trivial
   | ok b sm'=>exact fun Q k=>⟨.ref av,e,ty,q Q k⟩
   | exc c fs sm'=>exact fun k Q=>⟨.ref av,e,ty,q k Q⟩
  ·exact trivial
 ·exact trivial
end
def gD:T→D→Option (T × D)
 | .own xs,d=>if fits (xs.length+1) then some (.own (xs++[d]),.non) else none
 | _,_=>none
def wY:T→D→Option (T × D)
 | .own xs,.lst ys=>if fits (xs.length+ys.length) then some (.own (xs++ys),.non) else none
 | _,_=>none
theorem uP (K:PySem.W.Frag):Ce K rAppend gD:=by
 intro w t d a vd t' z ok oa rt rd h Q q
 unfold gD at h
 split at h
 ·split at h
  ·rename_i hf
   cases h
   obtain ⟨a',vs,ea,h1,_,r1⟩:=rt
   cases ea
   have hl:=dJ hf
   refine ⟨a,vs,vd,rfl,rfl,h1,by rw [← r1.len]; omega,?_⟩
   have k:=Keep.wr oa (.lst (vs++[vd]))
   exact q (.lst (vs++[vd])) .non trivial ⟨a,_,rfl,upd_same,oa,(ak.mono k ok _ _ r1).append (ak.cons (Rep.mono k ok _ _ rd) ak.nil)⟩ nW
  ·cases h
 ·cases h
section
variable {X:Cf} {e:Expr} {m:M D} {x:Str} {p apos cpos:Pos}
theorem kE (i:Nat) (h:PM X e m) (hN:X.N[i]? = some x:=by rfl) (hv:∀ j,Vis (X.env j).scope x:=by intro _; first | exact Or.inl rfl | exact Or.inr (Or.inl rfl) | exact Or.inr (Or.inr rfl)) (hd:(x == ("__debug__" : Str))=false:=by decide)
  (hcd:(x == ("__classdict__" : Str))=false:=by decide) (hbase:∀ j,attributeBase (.Name x p) "append" (X.env j) (eval (.Name x p) (X.env j))=eval (.Name x p) (X.env j):=by intro _; rfl)
  (hfew:∀ j,((backTo cpos (starEach [e] (X.env j))).all (fun x=>!x.1) && (backToKw cpos (keywordEach [] (X.env j))).all (fun x=>x.1.isSome)
   && decide (([e]:List Expr).length+([]:List Keyword).length+(if ([]:List Keyword).isEmpty then 0 else 1) < 30))=true:=by intro _; rfl)
  (hline:(apos.endLine == cpos.line)=true:=by rfl) (hs:∀ j,starEach [e] (X.env j)=(false,eval e (X.env j)) :: starEach [] (X.env j):=by intro _; rfl) :
  PM X (.Call (.Attribute (.Name x p) "append" apos) [e] [] cpos) (sV "list" gD i m):=by
 obtain ⟨t,q,s⟩:=h.ex
 exact ⟨fun W=>tBM X.K "list" rAppend (tVar i) (tCons (t W) tNil),fun j pn xe W tk pw=>pe_bm PySem.F.plainAttrs_list PySem.F.slot_list_append PySem.F.type_list_append mt_append (pe_var hN (hv j) hd hcd) (pa_cons (q j pn xe W tk pw) pa_nil (hs j)) (hbase j) (hfew j) hline (hs j),fun W=>yI (by decide) (uP X.K) (s W)⟩
end
def putD (kvs:List (Key × D)) (k:Key) (d:D):List (Key × D) :=
 if (kvs.any fun kv=>decide (kv.1=k))=true then kvs.map (fun kv=>if kv.1=k then (kv.1,d) else kv) else kvs++[(k,d)]
def g8:T→D→D→Option T
 | .own xs,.int k,d=>(ixN xs.length k).map fun j=>.own (xs.set j d)
 | .owd kvs,k,d=>if kvs.length < sizeLine then (toKey k).map fun k=>.owd (putD kvs k d) else none
 | _,_,_=>none
def rSetD:TSet:=fun o i v H Q=>∃ a H',o = .ref a∧DPut H a i v H'∧Q H'
theorem set_dict {X:Cx} (hu:X.A.units+1 < cLine):PSet X rSetD:=by
 intro pins s σ H o i v ov iv u Q I ro ri rv h
 obtain ⟨a,H',rfl,g,q⟩:=h
 obtain rfl:ov=Value.ref a:=ro
 exact d_setItem hu I g ri rv fun s4 I4=>⟨H',I4,q⟩
def mV:TSet:=fun o i v H Q=>rSetL o i v H Q∨rSetD o i v H Q
theorem Az {X:Cx} (hu:X.A.units+1 < cLine):PSet X mV:=by
 intro pins s σ H o i v ov iv u Q I ro ri rv h
 rcases h with h | h
 ·exact set_list pins s σ H o i v ov iv u Q I ro ri rv h
 ·exact set_dict hu pins s σ H o i v ov iv u Q I ro ri rv h
theorem ak.set {K:PySem.W.Frag} {w:Wd} {d:D} {v:V} (h:Rep K w d v):∀ {ds:List D} {vs:List V} (j:Nat),ak K w ds vs→ak K w (ds.set j d) (vs.set j v)
 | [],vs,j,r=>by unfold ak at r; subst r; simpa using ak.nil
 | d' :: ds,vs,0,r=>by
  unfold ak at r
  obtain ⟨v',q,rfl,r1,r2⟩:=r
  exact ak.cons h r2
 | d' :: ds,vs,j+1,r=>by
  unfold ak at r
  obtain ⟨v',q,rfl,r1,r2⟩:=r
  exact ak.cons r1 (ak.set h j r2)
theorem qp {K:PySem.W.Frag} {w:Wd} {d:D} {v:V} (h:Rep K w d v) (k:Key):∀ {kvs:List (Key × D)} {vs:List V},ak K w (kvs.map (·.2)) vs →
    ∃ us,putK ((kvs.map (·.1)).zip vs) k v=((putD kvs k d).map (·.1)).zip us∧ak K w ((putD kvs k d).map (·.2)) us:=by
  intro kvs vs r
  have any_eq:∀ (kvs:List (Key × D)) (vs:List V),kvs.length=vs.length→(((kvs.map (·.1)).zip vs).any fun kv=>decide (kv.1=k))=(kvs.any fun kv=>decide (kv.1=k)):=fun kvs=>by
    induction kvs with
    | nil=>intro vs _; simp
    | cons p r ih =>
      intro vs hl
      cases vs with
      | nil=>cases hl
      | cons v vs=>simp only [List.map_cons,List.zip_cons_cons,List.any_cons]; rw [ih vs (by simpa using hl)]
  have hl:kvs.length=vs.length:=by have:=r.len; simpa using this
  unfold putK putD
  rw [any_eq kvs vs hl]
  split
  · have mp : ∀ (kvs : List (Key × D)) (vs : List V), ak K w (kvs.map (·.2)) vs → ∃ us, ((kvs.map (·.1)).zip vs).map (fun kv => if kv.1 = k then (kv.1, v) else kv) = ((kvs.map (fun kv => if kv.1 = k then (kv.1, d) else kv)).map (·.1)).zip us ∧ ak K w ((kvs.map (fun kv => if kv.1 = k then (kv.1, d) else kv)).map (·.2)) us := fun kvs => by
      induction kvs with
      | nil=>intro vs r; exact ⟨[],by simp,ak.nil⟩
      | cons p q ih =>
        intro vs r
        rw [List.map_cons] at r
        unfold ak at r
        obtain ⟨v',vr,rfl,r1,r2⟩:=r
        obtain ⟨us,e,r3⟩:=ih vr r2
        by_cases hk:p.1=k
        · refine ⟨v :: us,?_,?_⟩
          · simp only [List.map_cons,List.zip_cons_cons,if_pos hk,e]
          · simp only [List.map_cons,if_pos hk]; exact ak.cons h r3
        · refine ⟨v' :: us,?_,?_⟩
          · simp only [List.map_cons,List.zip_cons_cons,if_neg hk,e]
          · simp only [List.map_cons,if_neg hk]; exact ak.cons r1 r3
    exact mp kvs vs r
  · refine ⟨vs++[v],?_,?_⟩
    · rw [List.map_append,List.map_cons,List.map_nil,List.zip_append (by simpa using hl)]; rfl
    · rw [List.map_append]; exact r.append (ak.cons h ak.nil)
def kJ (i:Nat) (k d:D):M Fl:=fun sm=>match sm[i]? with
 | some (some t)=>(match g8 t k d with
  | some t'=>.ok .nx (sm.set i (some t'))
  | none=>.fail)
 | _=>.fail
def ig (i:Nat) (mk me:M D):M Fl:=bnd me fun d=>bnd (aA i) fun _=>bnd mk fun k=>kJ i k d
section
variable {X:Cf} {W:WX} {ks:List Nat}
theorem yJ {σ:L2.St} {w:Wd} {sm:Sg} {i:Nat} {k d:D} {vk vd v:V} (hs:SR X.K w sm σ) (rk:aP X.K w k vk) (rd:Rep X.K w d vd) (hv:σ[i]? = some (some v)):dB X W ks (fun D=>mV v vk vd w.H fun H3=>D.nx σ H3) σ w (kJ i k d sm):=by
 unfold kJ
 split
 ·rename_i t ht
  obtain ⟨v',e,r⟩:=hs.slot i t ht
  rw [hv] at e; cases e
  split
  ·rename_i t' hf
   unfold g8 at hf
   split at hf
   ·rename_i xs kk
    obtain ⟨a,vs,rfl,h1,oa,r1⟩:=r
    cases aN rk
    cases hj:ixN xs.length kk with
    | none=>rw [hj] at hf; cases hf
    | some j =>
     rw [hj] at hf; cases hf
     have kp:=Keep.wr oa (.lst (vs.set j vd))
     intro D en
     refine .inl ⟨a,vs,kk,j,rfl,rfl,h1,by rw [← r1.len]; exact hj,?_⟩
     exact en σ (w.wr a (.lst (vs.set j vd))) (Gr.wr oa _) (hs.wr ht rfl hv oa trivial ⟨a,_,rfl,upd_same,oa,ak.set (Rep.mono kp hs.ok _ _ rd) j (ak.mono kp hs.ok _ _ r1)⟩) KS.refl
   ·rename_i kvs
    split at hf
    ·rename_i hl
     obtain ⟨a,vs,rfl,h1,oa,r1⟩:=r
     cases hk:toKey k with
     | none=>rw [hk] at hf; cases hf
     | some key =>
      rw [hk] at hf; cases hf
      cases nY hk rk
      intro D en
      obtain ⟨us0,e0,_⟩:=qp rd key r1
      have kp:=Keep.wr oa (.dK (putK ((kvs.map (·.1)).zip vs) key vd))
      obtain ⟨us,e2,r2⟩:=qp (Rep.mono kp hs.ok _ _ rd) key (ak.mono kp hs.ok _ _ r1)
      have ll:((kvs.map (·.1)).zip vs).length < sizeLine:=by
       rw [List.length_zip,List.length_map]
       exact Nat.lt_of_le_of_lt (Nat.min_le_left _ _) hl
      have rt:aY X.K (w.wr a (.dK (putK ((kvs.map (·.1)).zip vs) key vd))) (.owd (putD kvs key d)) (.ref a):=⟨a,us,rfl,by
       show upd w.H a _ a=_
       rw [upd_same,e2],oa,r2⟩
      have mu:Mut (some (HO.dK (putK ((kvs.map (fun x=>x.1)).zip vs) key vd))):=trivial
      have fin:=en σ _ (Gr.wr oa _) (hs.wr ht rfl hv oa mu rt) KS.refl
      exact .inr ⟨a,_,rfl,DPut.k h1 ll,fin⟩
    ·cases hf
   ·cases hf
  ·exact trivial
 ·exact trivial
theorem jJ {k:Nat} (hr:Room k X.A) (i:Nat) {x:Str} {b e:Expr} {p pos pos' : Pos} {mk me:M D} (he:PM X e me) (hb:PB X b mk) (hN:X.N[i]? = some x:=by rfl) (hv:∀ j,Vis (X.env j).scope x:=by intro _; first | exact Or.inl rfl | exact Or.inr (Or.inl rfl) | exact Or.inr (Or.inr rfl))
  (hd:(x == ("__debug__" : Str))=false:=by decide) (hcd:(x == ("__classdict__" : Str))=false:=by decide)
  (ha:∀ j,∀ v,assign (.Subscript (.Name x p) b pos') (X.env j) v=(do
   let ov ← holding [v] (eval (.Name x p) (X.env j))
   let iv ← holding [v,ov] (eval b (X.env j))
   standAt pos'
   holding [v,ov,iv] (setItem ov iv v)
   release [v,ov,iv] []):=by intro _ _; rfl)
  (hs:∀ j,swapsWithSole [.Subscript (.Name x p) b pos'] e pos.line (X.env j)=pure false:=by intro _; rfl) (hw:∀ j,swappedStores [.Subscript (.Name x p) b pos'] e (X.env j)=pure none:=by intro _; rfl) :
  jo X ks (.Assign [.Subscript (.Name x p) b pos'] e pos) (ig i mk me):=by
 obtain ⟨te,pe,se⟩:=he.ex
 obtain ⟨tb,pb,sb⟩:=hb.ex
 refine ⟨fun W=>tAsg (te W) (gSub (tVar i) (tb W) mV),fun j pn xe W tk pw=>ps_asg (pe j pn xe W tk pw) (pg_sub (pe_var hN (hv j) hd hcd) (pb j pn xe W tk pw) (Az (X:=X.at j pn xe) (hu_of hr)) (ha j)) (hs j) (hw j),fun W σ w sm hs=>?_⟩
 refine (se W σ w sm hs).st (kb:=fun x H D=>∃ vo,σ[i]? = some (some vo)∧tb W σ H fun iv H2=>mV vo iv x H2 fun H3=>D.nx σ H3) fun w1 sm1 d vd g1 s1 r1=>?_
 show dB X W ks _ σ w1 (bK (aA i sm1) _)
 unfold aA
 split
 ·rename_i t ht
  obtain ⟨v,ev,rv⟩:=s1.slot i t ht
  show dB X W ks _ σ w1 (bK (mk sm1) _)
  have q:=(sb W σ w1 sm1 s1).st (ks:=ks) (kb:=fun iv H2 D=>mV v iv vd H2 fun H3=>D.nx σ H3) (f:=fun k=>kJ i k d) fun w2 sm2 k vk g2 s2 r2=>yJ s2 r2 (Rep.mono g2.toKeep s1.ok _ _ r1) ev
  revert q
  generalize bK (mk sm1) _=rr
  intro q
  cases rr with
  | fail=>exact trivial
  | ok fl sm'=>exact fun D en=>⟨v,ev,q D en⟩
  | exc c fs sm'=>exact fun en D=>⟨v,ev,q en D⟩
 ·exact trivial
end
end Mir
namespace Mir
open PySem PySem.Spec PyProof.Rows L2
def o7 (vs:List Nat) (σ σ' : L2.St):Prop:=σ'.length=σ.length∧∀ j,j∉vs→σ'[j]? = σ[j]?
theorem o7.ks {vs ks:List Nat} {σ σ' : L2.St} (o:o7 vs σ σ') (h:∀ i∈ks,i∉vs):KS ks σ σ':=fun i hi=>o.2 i (h i hi)
theorem o7.trans {vs us:List Nat} {σ σ1 σ2:L2.St} (a:o7 vs σ σ1) (b:o7 us σ1 σ2):o7 (vs++us) σ σ2:=⟨b.1.trans a.1,fun j h=>by
 rw [b.2 j (fun z=>h (List.mem_append_right _ z)),a.2 j (fun z=>h (List.mem_append_left _ z))]⟩
abbrev GA:=D→Sg→Option Sg
abbrev qu:=List D→Sg→Option Sg
def o8 (X:Cf) (vs:List Nat) (k:(L2.St→Hp→Prop)→Prop) (σ:L2.St) (w:Wd):Option Sg→Prop
 | some sm'=>∀ Q,(∀ σ',SR X.K w sm' σ'→o7 vs σ σ'→Q σ' w.H)→k Q
 | none=>True
structure sW (X:Cf) (vs:List Nat) (tg:Expr) (a:GA):Prop where
 ex:∃ g:TG,(∀ j pn xe,PG (X.at j pn xe) tg g)∧∀ σ w sm d v,SR X.K w sm σ→Rep X.K w d v→o8 X vs (fun Q=>g v σ w.H Q) σ w (a d sm)
structure tX (X:Cf) (vs:List Nat) (tgs:List Expr) (a:qu):Prop where
 ex:∃ g:TGs,(∀ j pn xe,PGs (X.at j pn xe) tgs g)∧∀ σ w sm ds us,SR X.K w sm σ→ak X.K w ds us→o8 X vs (fun Q=>g us σ w.H Q) σ w (a ds sm)
def jC (i:Nat):GA:=fun d sm=>some (sm.set i (some (.val d)))
def wI:qu
 | [],sm=>some sm
 | _,_=>none
def qw (a:GA) (r:qu):qu
 | d :: ds,sm=>(a d sm).bind (r ds)
 | [],_=>none
def wJ (n:Nat) (r:qu):GA
 | .tup ds,sm=>if ds.length=n then r ds sm else none
 | _,_=>none
section
variable {X:Cf} {pos:Pos}
theorem jd {i:Nat} {x:Str} (hN:X.N.Nodup) (hi:X.N[i]? = some x) (hx:∀ j,Loc (X.env j).scope x) (hf:∀ j,(X.v j).fn x=true∨(X.env j).scope.names.lookup x=some .local:=by intro _; first | exact .inl rfl | exact .inr rfl | assumption):sW X [i] (.Name x pos) (jC i) :=
 ⟨gName i,fun j pn xe=>pg_name hN hi (hx j) (hf j),fun σ w sm d v hs r Q q=>q _ (hs.set i r) ⟨by simp,fun j hj=>List.getElem?_set_ne (fun e=>hj (by simp [e]))⟩⟩
theorem vM:tX X [] [] wI:=⟨gNil,fun j pn xe=>pgs_nil,fun σ w sm ds us hs r=>by
 cases ds with
 | nil=>unfold ak at r; subst r; exact fun Q q=>⟨rfl,q σ hs ⟨rfl,fun _ _=>rfl⟩⟩
 | cons d ds=>exact trivial⟩
theorem o9 {vs us:List Nat} {e:Expr} {es:List Expr} {a:GA} {r:qu} (h:sW X vs e a) (h2:tX X us es r)
  (hs:∀ j,(assignEach (e :: es) (X.env j)).map (·.2)=assign e (X.env j) :: (assignEach es (X.env j)).map (·.2):=by intro _; rfl):tX X (vs++us) (e :: es) (qw a r):=by
 obtain ⟨g,p,s⟩:=h.ex
 obtain ⟨g2,p2,s2⟩:=h2.ex
 refine ⟨gCons g g2,fun j pn xe=>pgs_cons (p j pn xe) (p2 j pn xe) (hs j),fun σ w sm ds ws hs rr=>?_⟩
 cases ds with
 | nil=>exact trivial
 | cons d ds =>
  unfold ak at rr
  obtain ⟨v,r',rfl,r1,r2⟩:=rr
  have q:=s σ w sm d v hs r1
  show o8 X (vs++us) _ σ w ((a d sm).bind (r ds))
  cases ha:a d sm with
  | none=>exact trivial
  | some sm1 =>
   rw [ha] at q
   show o8 X (vs++us) _ σ w (r ds sm1)
   cases hr:r ds sm1 with
   | none=>exact trivial
   | some sm2 =>
    intro Q k
    refine ⟨v,r',rfl,q _ fun σ1 s1 o1=>?_⟩
    have q2:=s2 σ1 w sm1 ds r' s1 r2
    rw [hr] at q2
    exact q2 Q fun σ2 s2 o2=>k σ2 s2 (o1.trans o2)
theorem wZ {vs:List Nat} {es:List Expr} {k n:Nat} {r:qu} (hc:X.calm=true) (h:tX X vs es r) (hn:∀ j,(assignEach es (X.env j)).length=n:=by intro _; rfl)
  (hst:∀ j,(assignEach es (X.env j)).findIdx? (·.1)=none:=by intro _; rfl):sW X vs (.Tuple es k pos) (wJ n r):=by
 obtain ⟨g,p,s⟩:=h.ex
 refine ⟨gTup X.K n g,fun j pn xe=>pg_tup hc (p j pn xe) (hn j) (hst j),fun σ w sm d v hs rr=>?_⟩
 cases d with
 | tup ds =>
  obtain ⟨a,us,rfl,h1,r1⟩:=fY (Rep.b rr)
  show o8 X vs _ σ w (if ds.length=n then r ds sm else none)
  split
  ·rename_i hl
   have q:=s σ w sm ds us hs r1
   cases hr:r ds sm with
   | none=>exact trivial
   | some sm1 =>
    rw [hr] at q
    exact fun Q k=>⟨a,us,rfl,h1,by rw [← r1.len]; exact hl,q Q k⟩
  ·exact trivial
 | _=>exact trivial
end
def kW (a:GA) (d:D):M Unit:=fun sm=>match a d sm with
 | some sm'=>.ok () sm'
 | none=>.fail
section
variable {X:Cf} {ks:List Nat}
def tY (a:GA) (m:M D):M Fl:=bnd m fun d=>bnd (kW a d) fun _=>ret .nx
theorem yK {vs:List Nat} {tg e:Expr} {pos:Pos} {a:GA} {m:M D} (hg:sW X vs tg a) (h:PM X e m) (hk:∀ i∈ks,i∉vs:=by decide)
  (hs:∀ j,swapsWithSole [tg] e pos.line (X.env j)=pure false:=by intro _; rfl) (hw:∀ j,swappedStores [tg] e (X.env j)=pure none:=by intro _; rfl) (h1:∀ j,(assignEach [tg] (X.env j)).map (·.2)=[assign tg (X.env j)]:=by intro _; rfl):jo X ks (.Assign [tg] e pos) (tY a m):=by
 obtain ⟨t,p,s⟩:=h.ex
 obtain ⟨g,pg,sg⟩:=hg.ex
 refine ⟨fun W=>tAsg (t W) g,fun j pn xe W tk pw=>ps_asg (p j pn xe W tk pw) (pg j pn xe) (hs j) (hw j) (h1 j),fun W σ w sm hs=>?_⟩
 refine (s W σ w sm hs).st (kb:=fun x H D=>g x σ H D.nx) fun w1 sm1 d v g1 s1 r1=>?_
 have q:=sg σ w1 sm1 d v s1 r1
 show dB X W ks _ σ w1 (bK (kW a d sm1) _)
 unfold kW
 cases ha:a d sm1 with
 | none=>exact trivial
 | some sm2 =>
  rw [ha] at q
  exact fun D en=>q D.nx fun σ2 s2 o2=>en σ2 w1 (Gr.refl w1) s2 (o2.ks hk)
end
def Goes (K:PySem.W.Frag) (w:Wd) (ds:List D) (J:It):Prop:=∀ w',Keep w w'→w'.Ok →
 (∀ i d,ds[i]? = some d→J.go i w'.H∧∀ x H',J.yld i w'.H x H'→∃ w2,Al w' w2∧w2.H=H'∧Rep K w2 d x)∧∀ i,ds.length≤i→J.stop i w'.H
structure yL (X:Cf) (tg iter:Expr) (m:M (List D)):Prop where
 ex:∃ t:WX→TI,(∀ j pn xe W,Takes (X.at j pn xe) W→iY X j xe→PI (X.at j pn xe) tg iter (t W))∧∀ W,aR X W (fun _ _ w' ds J=>Goes X.K w' ds J) (t W) m
def D.items:D→Option (List D)
 | .lst xs=>some xs
 | .tup xs=>some xs
 | .str z=>some (z.cps.toList.map fun c=>.str ⟨#[c]⟩)
 | _=>none
section
variable {X:Cf} {tg:Expr}
def fM (lo hi:Int):List D:=(List.range (hi - lo).toNat).map fun (k:Nat)=>D.int (lo+(k:Int))
def lY (i:Int):Bool:=decide (-(2 ^ 62)≤i∧i < 2 ^ 62)
def iT (m:M D):M (List D):=bnd m fun d=>match d with
 | .int j=>if lY j then ret (fM 0 j) else stuck
 | _=>stuck
theorem tZ (K:PySem.W.Frag) (w:Wd) (lo hi:Int):Goes K w (fM lo hi) (Itr lo (hi - lo).toNat):=fun w' k ok'=>by
 unfold fM
 refine ⟨fun i d hd=>?_,fun i h=>by show (hi - lo).toNat≤i; rw [List.length_map,List.length_range] at h; exact h⟩
 rw [List.getElem?_map] at hd
 cases hj:(List.range (hi - lo).toNat)[i]? with
 | none=>rw [hj] at hd; cases hd
 | some k' =>
  rw [hj] at hd
  cases hd
  obtain ⟨hl,e⟩:=List.getElem?_eq_some_iff.mp hj
  rw [List.getElem_range] at e
  subst e
  refine ⟨by show i < (hi - lo).toNat; rw [List.length_range] at hl; exact hl,fun x H' hy=>?_⟩
  obtain ⟨rfl,rfl⟩:=hy
  exact ⟨w',Al.refl ok',rfl,aW⟩
theorem jK {a:Expr} {m:M D} {p pos:Pos} (hg:∀ j,(X.env j).kindOf "range" = some .globalImplicit) (hm:X.mg "range" = none) (h:PM X a m) (hs:∀ j,starEach [a] (X.env j)=[(false,eval a (X.env j))]:=by intro _; rfl):yL X tg (.Call (.Name "range" p) [a] [] pos) (iT m):=by
 obtain ⟨t,q,s⟩:=h.ex
 refine ⟨fun W=>iRng1 (tCons (t W) tNil),fun j pn xe W tk pw=>pi_range1 (hg j) hm (pa_cons (q j pn xe W tk pw) pa_nil (hs j)) (hs j),fun W=>?_⟩
 refine (s W).bnd (k:=fun x σ H R=>∃ j:Int,[x]=[V.int j]∧-(2 ^ 62)≤j∧j < 2 ^ 62∧R (Itr 0 j.toNat) H) fun σ w w1 sm1 d v ok g1 s1 r1=>?_
 split
 ·rename_i jj
  split
  ·rename_i hb
   have hb':=of_decide_eq_true hb
   cases aN (Rep.b r1)
   refine aD.now s1 (tZ X.K w1 0 jj) fun Q q=>⟨jj,rfl,hb'.1,hb'.2,?_⟩
   rw [Int.sub_zero] at q
   exact q
  ·exact trivial
 ·exact trivial
end
def dD (a:GA) (m:M Fl):List D→M Fl
 | []=>ret .nx
 | d :: ds=>bnd (kW a d) fun _=>bnd m fun fl=>match fl with
  | .nx=>dD a m ds
  | .ct=>dD a m ds
  | .bk=>ret .nx
  | .rt r=>ret (.rt r)
def qC (mi:M (List D)) (a:GA) (m:M Fl):M Fl:=bnd mi (dD a m)
section
variable {X:Cf} {W:WX} {ks vs:List Nat}
theorem sX {g:TG} {tb:TS} {a:GA} {m:M Fl} {D:Ends} {J:It} {ds:List Mir.D} {σ:L2.St} {w:Wd} {sm:Sg} (hk:∀ i∈ks,i∉vs) (hg:∀ σ w sm d v,SR X.K w sm σ→Rep X.K w d v→o8 X vs (fun Q=>g v σ w.H Q) σ w (a d sm)) (hb:kh X W ks tb m)
  (hJ:Goes X.K w ds J) (hs:SR X.K w sm σ) (r:R Fl) (hr:dD a m ds sm=r) (nf:r≠.fail) (h1:∀ fl sm2,r = .ok fl sm2→lW X ks σ w sm2 D fl) (h2:∀ c fs sm2,r = .exc c fs sm2→XW X W ks σ w sm2 c fs) :
  ∃ Wi:Nat→Nat→L2.St→Hp→Prop,(∃ n,Wi 0 n σ w.H)∧∀ i n σ H,Wi i n σ H →
   (J.stop i H∧D.nx σ H)∨(J.go i H∧∃ N:L2.St→Hp→Prop,(∀ σ' H',N σ' H'→∃ m',m' < n∧Wi (i+1) m' σ' H')∧∀ x H',J.yld i H x H'→g x σ H' fun σ2 H2=>tb { D with nx:=N,ct:=N,bk:=D.nx } σ2 H2):=by
 refine ⟨fun i n σ' H'=>n=ds.length - i∧∃ w' sm',w'.H=H'∧SR X.K w' sm' σ'∧dD a m (ds.drop i) sm' = r∧Gr w w'∧KS ks σ σ'∧i≤ds.length,⟨ds.length,by simp,w,sm,rfl,hs,hr,Gr.refl w,KS.refl,Nat.zero_le _⟩,?_⟩
 rintro i n σ1 H1 ⟨rfl,w1,sm1,rfl,s1,e1,g1,k1,hi⟩
 obtain ⟨go,stop⟩:=hJ w1 g1.toKeep s1.ok
 by_cases hlt:i < ds.length
 ·refine .inr ?_
  have hd:ds[i]? = some ds[i]:=List.getElem?_eq_getElem hlt
  obtain ⟨go1,yl⟩:=go i ds[i] hd
  refine ⟨go1,fun σ' H'=>∃ w' sm',w'.H=H'∧SR X.K w' sm' σ'∧dD a m (ds.drop (i+1)) sm' = r∧Gr w w'∧KS ks σ σ',fun σ' H' hN=>?_,fun x H' hy=>?_⟩
  ·obtain ⟨w',sm',e,s,q,g,k⟩:=hN
   exact ⟨ds.length - (i+1),by omega,rfl,w',sm',e,s,q,g,k,hlt⟩
  ·obtain ⟨w2,al,rfl,rx⟩:=yl x H' hy
   have s2:=s1.al al
   have g2:=g1.trans s1.ok al.gr
   have e2:dD a m (ds[i] :: ds.drop (i+1)) sm1=r:=by rw [← List.drop_eq_getElem_cons hlt]; exact e1
   have q:=hg σ1 w2 sm1 ds[i] x s2 rx
   have e3:bK (kW a ds[i] sm1) (fun _=>bnd m fun fl=>match fl with | .nx=>dD a m (ds.drop (i+1)) | .ct=>dD a m (ds.drop (i+1)) | .bk=>ret .nx | .rt r=>ret (.rt r))=r:=e2
   unfold kW at e3
   cases ha:a ds[i] sm1 with
   | none=>rw [ha] at e3; exact absurd e3.symm nf
   | some sm3 =>
    rw [ha] at e3 q
    refine q _ fun σ3 s3 o3=>?_
    have k3:KS ks σ σ3:=k1.trans (o3.ks hk)
    have e4:bK (m sm3) (fun fl=>match fl with | .nx=>dD a m (ds.drop (i+1)) | .ct=>dD a m (ds.drop (i+1)) | .bk=>ret .nx | .rt r=>ret (.rt r))=r:=e3
    have hb':=hb σ3 w2 sm3 s3
    cases hm:m sm3 with
    | fail=>rw [hm] at e4; exact absurd e4.symm nf
    | exc c fs sm4 =>
     rw [hm] at e4 hb'
     exact hb' ((h2 c fs sm4 e4.symm).shift g2 s2.ok k3) _
    | ok fl sm4 =>
     rw [hm] at e4 hb'
     cases fl with
     | nx=>exact hb' _ fun σ5 w5 g5 s5 k5=>⟨w5,sm4,rfl,s5,e4,g2.trans s2.ok g5,k3.trans k5⟩
     | ct=>exact hb' _ fun σ5 w5 g5 s5 k5=>⟨w5,sm4,rfl,s5,e4,g2.trans s2.ok g5,k3.trans k5⟩
     | bk=>exact hb' _ fun σ5 w5 g5 s5 k5=>(h1 .nx sm4 e4.symm) σ5 w5 (g2.trans s2.ok g5) s5 (k3.trans k5)
     | rt tt=>exact hb' _ fun v σ5 w5 g5 s5 k5 r5=>(h1 (.rt tt) sm4 e4.symm) v σ5 w5 (g2.trans s2.ok g5) s5 (k3.trans k5) (r5.back g2 s2.ok)
 ·have e:i=ds.length:=by omega
  subst e
  refine .inl ⟨stop _ (Nat.le_refl _),?_⟩
  rw [List.drop_length] at e1
  have e2:R.ok Fl.nx sm1=r:=e1
  exact h1 _ _ e2.symm σ1 w1 g1 s1 k1
theorem sY {tg iter:Expr} {body:List Stmt} {pos:Pos} {mi:M (List D)} {a:GA} {m:M Fl} (hc:X.calm=true) (hi:yL X tg iter mi) (hg:sW X vs tg a) (hb:cD X ks body m) (hk:∀ i∈ks,i∉vs:=by decide)
  (hs:∀ j x,foldedSetIterable iter (X.env j) x=pure x:=by intro _ _; rfl):jo X ks (.For tg iter body [] pos) (qC mi a m):=by
 obtain ⟨ti,pi,si⟩:=hi.ex
 obtain ⟨g,pg,sg⟩:=hg.ex
 obtain ⟨tb,pb,sb⟩:=hb.ex
 refine ⟨fun W=>tFor (ti W) g (tb W),fun j pn xe W tk pw=>ps_for pw hc (pi j pn xe W tk pw) (pg j pn xe) (pb j pn xe W tk pw) (hs j),fun W σ w sm hs=>?_⟩
 refine (si W σ w sm hs).st (kb:=fun J H1 D=>∃ W' : Nat→Nat→L2.St→Hp→Prop,(∃ m,W' 0 m σ H1)∧∀ i m σ H,W' i m σ H →
  (J.stop i H∧D.nx σ H)∨(J.go i H∧∃ N:L2.St→Hp→Prop,(∀ σ' H',N σ' H'→∃ m',m' < m∧W' (i+1) m' σ' H')∧∀ x H',J.yld i H x H'→g x σ H' fun σ2 H2=>tb W { D with nx:=N,ct:=N,bk:=D.nx } σ2 H2)) fun w1 sm1 ds J g1 s1 hJ=>?_
 cases hr:dD a m ds sm1 with
 | fail=>exact trivial
 | ok fl sm2=>exact fun D en=>sX hk sg (sb W) hJ s1 _ hr (fun z=>nomatch z) (fun fl' sm2' z=>by cases z; exact en) (fun _ _ _ z=>nomatch z)
 | exc c fs sm2=>exact fun en D=>sX hk sg (sb W) hJ s1 _ hr (fun z=>nomatch z) (fun _ _ z=>nomatch z) (fun c' fs' sm2' z=>by cases z; exact en)
end
end Mir
namespace Mir
open PySem PySem.Spec PyProof.Rows L2
inductive Ar where
 | dv (d:D) | io (j:Nat)
def jr (K:PySem.W.Frag) (σ:L2.St) (w:Wd):Ar→V→Prop
 | .dv d,v=>Rep K w d v
 | .io j,v=>σ[j]? = some (some v)
theorem jr.mono {K:PySem.W.Frag} {σ:L2.St} {w w' : Wd} (k:Keep w w') (ok:w.Ok) {a:Ar} {v:V} (h:jr K σ w a v):jr K σ w' a v:=by
 cases a with
 | dv d=>exact Rep.mono k ok d v h
 | io j=>exact h
theorem Paired.yM {α β:Type} {F G:α→β→Prop}:∀ {l₁:List α} {l₂:List β},Paired F l₁ l₂→(∀ a b,F a b→G a b)→Paired G l₁ l₂
 | _,_,.nil,_=>.nil
 | _,_,.cons r t,f=>.cons (f _ _ r) (Paired.yM t f)
theorem Paired.at1 {α β:Type} {F:α→β→Prop}:∀ {l₁:List α} {l₂:List β} {i:Nat} {a:α},Paired F l₁ l₂→l₁[i]? = some a→∃ b,l₂[i]? = some b∧F a b
 | _,_,_,_,.nil,e=>by simp at e
 | _,_,0,_,.cons r _,e=>by simp at e; subst e; exact ⟨_,rfl,r⟩
 | _,_,i+1,_,.cons _ t,e=>by
  obtain ⟨b,h1,h2⟩:=Paired.at1 (i:=i) t (by simpa using e)
  exact ⟨b,by simpa using h1,h2⟩
def gG (j:Nat):List Ar→Bool
 | []=>true
 | .io i :: r=>decide (i≠j) && gG j r
 | .dv _ :: r=>gG j r
def dist:List Ar→Bool
 | []=>true
 | .io j :: r=>gG j r && dist r
 | .dv _ :: r=>dist r
def resolve (sm:Sg):List Ar→Option (List T)
 | []=>some []
 | .dv d :: r=>(resolve sm r).map (.val d :: ·)
 | .io j :: r=>match sm[j]? with
  | some (some t)=>if t.owned=true then (resolve sm r).map (t :: ·) else none
  | _=>none
def aZ (sm:Sg):List Ar→Sg→Sg
 | .io j :: as,o :: os=>aZ (sm.set j o) as os
 | .dv _ :: as,_ :: os=>aZ sm as os
 | _,_=>sm
abbrev Fn:=List T→R T
def mW (fm:Fn) (as:List Ar):M T:=fun sm=>if dist as=true then (match resolve sm as with
 | some ts=>(match fm ts with
  | .ok r outs=>.ok r (aZ sm as outs)
  | .exc c fs outs=>.exc c fs (aZ sm as outs)
  | .fail=>.fail)
 | none=>.fail) else .fail
def jZ (K:PySem.W.Frag) (mg:Str→Option Value) (fm:Fn):Sp:=fun vs H Q E=>∃ (w:Wd) (ts:List T),w.H=H∧SR K w (ts.map some) (vs.map some)∧(∀ a,w.O a→∃ (i:Nat) (t:T) (v:V),ts[i]? = some t∧t.owned=true∧vs[i]? = some v∧iZ w t v a) ∧
 match fm ts with
 | .fail=>False
 | .ok r outs=>∀ v w',Gr w w'→SR K w' outs (vs.map some)→iW K w w' r v→Q v w'.H
 | .exc c fs outs=>∀ cls d w',Gr w w'→SR K w' outs (vs.map some)→XR K mg w' c fs cls d→E cls d w'.H
theorem jD {j:Nat}:∀ {as:List Ar} {i k:Nat},gG j as=true→as[i]? = some (.io k)→k≠j
 | [],i,k,h,e=>by simp at e
 | a :: as,0,k,h,e=>by
  simp at e; subst e
  simp only [gG,Bool.and_eq_true,decide_eq_true_eq] at h
  exact h.1
 | a :: as,i+1,k,h,e=>by
  have h' : gG j as=true:=by
   cases a with
   | dv d=>exact h
   | io q=>simp only [gG,Bool.and_eq_true] at h; exact h.2
  exact jD h' (by simpa using e)
theorem tD:∀ {as:List Ar} {i i' k k' : Nat},dist as=true→i≠i'→as[i]? = some (.io k)→as[i']? = some (.io k')→k≠k'
 | [],i,i',k,k',h,ne,e,e'=>by simp at e
 | a :: as,0,0,k,k',h,ne,e,e'=>absurd rfl ne
 | a :: as,0,i' + 1,k,k',h,ne,e,e'=>by
  simp at e; subst e
  simp only [dist,Bool.and_eq_true] at h
  exact fun z=>jD h.1 (i:=i') (by simpa using e') z.symm
 | a :: as,i+1,0,k,k',h,ne,e,e'=>by
  simp at e'; subst e'
  simp only [dist,Bool.and_eq_true] at h
  exact jD h.1 (i:=i) (by simpa using e)
 | a :: as,i+1,i' + 1,k,k',h,ne,e,e'=>by
  have h' : dist as=true:=by
   cases a with
   | dv d=>exact h
   | io q=>simp only [dist,Bool.and_eq_true] at h; exact h.2
  exact tD h' (i:=i) (i':=i') (fun z=>ne (congrArg (· + 1) z)) (by simpa using e) (by simpa using e')
theorem jL {sm:Sg}:∀ {as:List Ar} {ts:List T},resolve sm as=some ts→ts.length=as.length∧∀ (i:Nat) (t:T),ts[i]? = some t→(∃ d,as[i]? = some (.dv d)∧t = .val d)∨∃ j,as[i]? = some (.io j)∧sm[j]? = some (some t)∧t.owned=true
 | [],ts,h=>by cases h; exact ⟨rfl,fun i t e=>by simp at e⟩
 | .dv d :: as,ts,h=>by
  unfold resolve at h
  cases hr:resolve sm as with
  | none=>rw [hr] at h; cases h
  | some l =>
   rw [hr] at h; cases h
   obtain ⟨h1,h2⟩:=jL hr
   refine ⟨by simp [h1],fun i t e=>?_⟩
   cases i with
   | zero=>simp at e; exact .inl ⟨d,rfl,e.symm⟩
   | succ i=>simpa using h2 i t (by simpa using e)
 | .io j :: as,ts,h=>by
  unfold resolve at h
  split at h
  ·rename_i t0 e0
   split at h
   ·rename_i ho
    cases hr:resolve sm as with
    | none=>rw [hr] at h; cases h
    | some l =>
     rw [hr] at h; cases h
     obtain ⟨h1,h2⟩:=jL hr
     refine ⟨by simp [h1],fun i t e=>?_⟩
     cases i with
     | zero=>simp at e; subst e; exact .inr ⟨j,rfl,e0,ho⟩
     | succ i=>simpa using h2 i t (by simpa using e)
   ·cases h
  ·cases h
theorem jM {j:Nat}:∀ {as:List Ar} {sm outs:Sg},gG j as=true→(aZ sm as outs)[j]? = sm[j]?
 | [],sm,outs,h=>by cases outs <;> rfl
 | .dv d :: as,sm,[],h=>rfl
 | .dv d :: as,sm,o :: outs,h=>by
  show (aZ sm as outs)[j]? = _
  exact jM h
 | .io k :: as,sm,[],h=>rfl
 | .io k :: as,sm,o :: outs,h=>by
  simp only [gG,Bool.and_eq_true,decide_eq_true_eq] at h
  show (aZ (sm.set k o) as outs)[j]? = _
  rw [jM h.2,List.getElem?_set_ne h.1]
theorem jt:∀ {as:List Ar} {sm outs:Sg},(aZ sm as outs).length=sm.length
 | [],sm,outs=>by cases outs <;> rfl
 | .dv d :: as,sm,[]=>rfl
 | .dv d :: as,sm,o :: outs=>jt (as:=as)
 | .io k :: as,sm,[]=>rfl
 | .io k :: as,sm,o :: outs=>by
  show (aZ (sm.set k o) as outs).length=_
  rw [jt]; simp
theorem lZ {j:Nat}:∀ {as:List Ar} {sm outs:Sg} {i:Nat} {o:Option T},dist as=true→as[i]? = some (.io j)→outs[i]? = some o→j < sm.length→(aZ sm as outs)[j]? = some o
 | [],sm,outs,i,o,h,e,eo,hl=>by simp at e
 | a :: as,sm,[],i,o,h,e,eo,hl=>by simp at eo
 | a :: as,sm,o' :: outs,0,o,h,e,eo,hl=>by
  simp at e eo; subst e; subst eo
  simp only [dist,Bool.and_eq_true] at h
  show (aZ (sm.set j o') as outs)[j]? = _
  rw [jM h.1,List.getElem?_set_self hl]
 | .dv d :: as,sm,o' :: outs,i+1,o,h,e,eo,hl=>by
  show (aZ sm as outs)[j]? = _
  exact lZ (i:=i) h (by simpa using e) (by simpa using eo) hl
 | .io k :: as,sm,o' :: outs,i+1,o,h,e,eo,hl=>by
  simp only [dist,Bool.and_eq_true] at h
  show (aZ (sm.set k o') as outs)[j]? = _
  exact lZ (i:=i) h.2 (by simpa using e) (by simpa using eo) (by simpa using hl)
theorem mj (j:Nat):∀ as:List Ar,gG j as=true∨∃ i:Nat,as[i]? = some (.io j)
 | []=>.inl rfl
 | .dv d :: as=>by
  rcases mj j as with h | ⟨i,h⟩
  ·exact .inl h
  ·exact .inr ⟨i+1,by simpa using h⟩
 | .io k :: as=>by
  by_cases e:k=j
  ·exact .inr ⟨0,by simp [e]⟩
  ·rcases mj j as with h | ⟨i,h⟩
   ·exact .inl (by simp [gG,e,h])
   ·exact .inr ⟨i+1,by simpa using h⟩
section
variable {X:Cf} {W:WX}
theorem uQ {fm:Fn} {as:List Ar} {vs:List V} {σ:L2.St} {w:Wd} {sm:Sg} (hs:SR X.K w sm σ) (ha:Paired (jr X.K σ w) as vs) :
    aD X W (fun w' t v=>iW X.K w w' t v) (fun Q=>jZ X.K X.mg fm vs w.H Q (WE W σ)) σ w (mW fm as sm):=by
  unfold mW
  split
  · rename_i hd
    cases hr:resolve sm as with
    | none=>exact trivial
    | some ts =>
      obtain ⟨hl,hat⟩:=jL hr
      have hlen:as.length=vs.length:=Paired.length ha
      -- the store,if it is lent
      have hzc:∃ zc:Option (Nat→Option Addr),(zc=none∧w.Z=none∧∃ (i j:Nat) (os:List Ob),as[i]? = some (.io j)∧sm[j]? = some (some (.sto os)))∨(zc=some w.P∧∀ (i j:Nat) (os:List Ob),as[i]? = some (.io j)→sm[j]?≠some (some (.sto os))):=by
        by_cases q:∃ (i j:Nat) (os:List Ob),as[i]? = some (.io j)∧sm[j]? = some (some (.sto os))
        · obtain ⟨i,j,os,q1,q2⟩:=q
          obtain ⟨v,_,_,hz,_⟩:=hs.slot j _ q2
          exact ⟨none,.inl ⟨rfl,hz,i,j,os,q1,q2⟩⟩
        · exact ⟨some w.P,.inr ⟨rfl,fun i j os q1 q2=>q ⟨i,j,os,q1,q2⟩⟩⟩
      obtain ⟨zc,hzc⟩:=hzc
      let wc:Wd:={ F:=w.F,O:=fun a=>∃ (i j:Nat) (t:T) (v:V),as[i]? = some (.io j)∧sm[j]? = some (some t)∧t.owned=true∧σ[j]? = some (some v)∧iZ w t v a,H:=w.H,P:=w.P,Z:=zc }
      have sub:∀ a,wc.O a→w.O a:=fun a ⟨i,j,t,v0,e1,e2,e3,e4,e5⟩=>by
        obtain ⟨v,e6,r⟩:=hs.slot j t e2
        rw [e4] at e6; cases e6
        exact r.jc e3 e5
      have okc:wc.Ok:=⟨fun a f o=>hs.ok.apart a f (sub a o),fun a o=>hs.ok.mu a (sub a o),hs.ok.trk,hs.ok.inj,fun p hp=>by
        rcases hzc with ⟨e,_⟩ | ⟨e,_⟩
        · rw [show zc=some p from hp] at e; cases e
        · rw [show zc=some p from hp] at e; cases e; rfl⟩
      have kc:Keep w wc:=⟨fun b o h _=>h,fun b f=>f,fun _ _ h=>h⟩
      have scc:SR X.K wc (ts.map some) (vs.map some):=by
        refine ⟨okc,by simp [hl,hlen],fun i t e=>?_,fun i i' t u v ne e1 e2 o1 o2 ev ev'=>?_,fun i i' t os a n e1 o1 e2 ev hn=>?_⟩
        · have et:ts[i]? = some t:=by simpa using e
          rcases hat i t et with ⟨d,e1,rfl⟩ | ⟨j,e1,e2,e3⟩
          · obtain ⟨v,ev,r⟩:=Paired.at1 ha e1
            exact ⟨v,by simp [ev],Rep.mono kc hs.ok d v r⟩
          · obtain ⟨v,ev,r⟩:=Paired.at1 ha e1
            obtain ⟨v',ev',r'⟩:=hs.slot j t e2
            have r0:σ[j]? = some (some v):=r
            rw [r0] at ev'; cases ev'
            exact ⟨v,by simp [ev],r'.keepS kc hs.ok (fun a ea oa=>⟨⟨i,j,t,v,e1,e2,e3,r0,ea⟩,rfl⟩) (fun _=>rfl) (fun hst=>by
              cases t with
              | sto os =>
                rcases hzc with ⟨e,e',_⟩ | ⟨_,e⟩
                · show zc=_; rw [e,e']
                · exact absurd e2 (e i j os e1)
              | _=>cases hst) fun _ a _ _ _ z=>z.elim .inl fun q=>.inr (sub a q)⟩
        · have et:ts[i]? = some t:=by simpa using e1
          have eu:ts[i']? = some u:=by simpa using e2
          rcases hat i t et with ⟨d,_,rfl⟩ | ⟨j,f1,f2,f3⟩
          · cases o1
          · rcases hat i' u eu with ⟨d,_,rfl⟩ | ⟨j',g1,g2,g3⟩
            · cases o2
            · obtain ⟨v1,h1,r1⟩:=Paired.at1 ha f1
              obtain ⟨v2,h2,r2⟩:=Paired.at1 ha g1
              have z1:v1=v:=by simpa [h1] using ev
              have z2:v2=v:=by simpa [h2] using ev'
              subst z1; subst z2
              exact hs.dis j j' t u v2 (tD hd ne f1 g1) f2 g2 f3 g3 r1 r2
        · have et:ts[i]? = some t:=by simpa using e1
          have eu:ts[i']? = some (.sto os):=by simpa using e2
          rcases hat i t et with ⟨d,_,rfl⟩ | ⟨j,f1,f2,f3⟩
          · cases o1
          · rcases hat i' _ eu with ⟨d,_,z⟩ | ⟨j',g1,g2,g3⟩
            · cases z
            · obtain ⟨v1,h1,r1⟩:=Paired.at1 ha f1
              have z1:v1 = .ref a:=by simpa [h1] using ev
              subst z1
              exact hs.sep j j' t os a n f2 f3 g2 r1 hn
      have own:∀ a,wc.O a→∃ (i:Nat) (t:T) (v:V),ts[i]? = some t∧t.owned=true∧vs[i]? = some v∧iZ wc t v a:=fun a ⟨i,j,t,v0,e1,e2,e3,e4,e5⟩=>by
        obtain ⟨v,ev,r⟩:=Paired.at1 ha e1
        have r0:σ[j]? = some (some v):=r
        rw [e4] at r0; cases r0
        have hi:i < ts.length:=by rw [hl]; exact (List.getElem?_eq_some_iff.mp e1).1
        rcases hat i ts[i] (List.getElem?_eq_getElem hi) with ⟨d,f1,_⟩ | ⟨j',f1,f2,f3⟩
        · rw [e1] at f1; cases f1
        · rw [e1] at f1; cases f1
          rw [e2] at f2; cases f2
          exact ⟨i,_,v0,List.getElem?_eq_getElem hi,f3,ev,e5⟩
      -- the world behind the call
      have behind:∀ (w' : Wd) (outs:Sg),Gr wc w'→SR X.K w' outs (vs.map some)→∃ w2:Wd,w2.H=w'.H∧Gr w w2∧SR X.K w2 (aZ sm as outs) σ∧(∀ t v,iW X.K wc w' t v→iW X.K w w2 t v)∧Keep w' w2:=fun w' outs g s'=>by
        let w2:Wd:={ F:=w'.F,O:=fun b=>(w.O b∧¬ wc.O b)∨(w'.O b∧∃ (i j:Nat) (t:T) (v:V),as[i]? = some (.io j)∧outs[i]? = some (some t)∧t.owned=true∧vs[i]? = some v∧iZ w' t v b),H:=w'.H,P:=w'.P,Z:=w.Z }
        have pzz:(∀ (i j:Nat) (os:List Ob),as[i]? = some (.io j)→sm[j]?≠some (some (.sto os)))→w'.P=w.P:=fun q=>by
          rcases hzc with ⟨_,_,i,j,os,q1,q2⟩ | ⟨e,_⟩
          · exact absurd q2 (q i j os q1)
          · exact s'.ok.fix _ (g.zz.trans e)
        have k2:Keep w' w2:=⟨fun b o h _=>h,fun b f=>f,fun _ _ h=>h⟩
        have ok2:w2.Ok:=⟨fun b f o=>by
            rcases o with ⟨o1,o2⟩ | ⟨o1,o2⟩
            · rcases g.back b (.inl f) with z | z | z
              · exact hs.ok.apart b z o1
              · exact o2 z
              · have m:=hs.ok.mu b o1
                have z' : w.H b=none:=z
                rw [z'] at m; exact m
            · exact s'.ok.apart b f o1,fun b o=>by
            rcases o with ⟨o1,o2⟩ | ⟨o1,o2⟩
            · have m:=hs.ok.mu b o1
              cases hb:w.H b with
              | none=>rw [hb] at m; exact absurd m (fun z=>z)
              | some ob =>
                rw [hb] at m
                show Mut (w'.H b)
                rw [g.kept b ob hb o2]; exact m
            · exact s'.ok.mu b o1,s'.ok.trk,s'.ok.inj,fun p hp=>by
            rcases hzc with ⟨_,e,_⟩ | ⟨_,q⟩
            · rw [show w.Z=some p from hp] at e; cases e
            · exact (pzz q).trans (hs.ok.fix p hp)⟩
        have gr:Gr w w2:=⟨⟨fun b o h n=>g.kept b o h fun z=>n (sub b z),g.fr,g.pr⟩,fun b h=>by
            rcases h with h | h | h
            · rcases g.back b (.inl h) with z | z | z
              · exact .inl z
              · exact .inr (.inl (sub b z))
              · exact .inr (.inr z)
            · exact .inr (.inl h.1)
            · rcases g.back b (.inr h.1) with z | z | z
              · exact .inl z
              · exact .inr (.inl (sub b z))
              · exact .inr (.inr z),g.there,rfl⟩
        -- what is lent at a place
        have lent:∀ (i j:Nat),as[i]? = some (.io j)→∃ t v,ts[i]? = some t∧sm[j]? = some (some t)∧t.owned=true∧σ[j]? = some (some v)∧vs[i]? = some v:=fun i j e1=>by
          obtain ⟨v1,h1,r1⟩:=Paired.at1 ha e1
          have hi:i < ts.length:=by rw [hl]; exact (List.getElem?_eq_some_iff.mp e1).1
          rcases hat i ts[i] (List.getElem?_eq_getElem hi) with ⟨d,f1,_⟩ | ⟨j',f1,f2,f3⟩
          · rw [e1] at f1; cases f1
          · rw [e1] at f1; cases f1
            exact ⟨_,v1,List.getElem?_eq_getElem hi,f2,f3,r1,h1⟩
        have ioslot:∀ (i j:Nat) (t:T),as[i]? = some (.io j)→outs[i]? = some (some t)→∃ v,σ[j]? = some (some v)∧vs[i]? = some v∧aY X.K w' t v∧(t.owned=true→∀ a,iZ w' t v a→w2.O a):=fun i j t e1 e2=>by
          obtain ⟨v,ev,r⟩:=s'.slot i t e2
          obtain ⟨t0,v1,_,_,_,r1,h1⟩:=lent i j e1
          have ee:v1=v:=by simpa [h1] using ev
          subst ee
          exact ⟨v1,r1,h1,r,fun ot a fa=>.inr ⟨r.jc ot fa,i,j,t,v1,e1,e2,ot,h1,fa⟩⟩
        -- a slot's thing behind the call
        have slotc:∀ (j:Nat) (t:T),(aZ sm as outs)[j]? = some (some t)→(∃ i:Nat,as[i]? = some (Ar.io j)∧outs[i]? = some (some t))∨(gG j as=true∧sm[j]? = some (some t)):=fun j t e=>by
          rcases mj j as with h | ⟨i,h⟩
          · rw [jM h] at e; exact .inr ⟨h,e⟩
          · have hi : i < outs.length := by
              have h0:outs.length=vs.length:=by simpa using s'.len
              rw [h0,← hlen]; exact (List.getElem?_eq_some_iff.mp h).1
            have hj:j < sm.length:=by
              have:=(List.getElem?_eq_some_iff.mp e).1
              rwa [jt] at this
            rw [lZ hd h (List.getElem?_eq_getElem hi) hj] at e
            exact .inl ⟨i,h,by rw [List.getElem?_eq_getElem hi]; exact e⟩
        -- what no slot lent is as it was
        have nolent:∀ (j:Nat) (t:T) (v:V) (a:Addr),gG j as=true→sm[j]? = some (some t)→t.owned=true→σ[j]? = some (some v)→iZ w t v a→¬ wc.O a:=fun j t v a h e ot ev fa ⟨i,jj,tt,vv,f1,f2,f3,f4,f5⟩ =>
          hs.apart (fun z=>by subst z; exact jD h f1 rfl) e f2 ot f3 ev f4 fa f5
        have pold:∀ (k n:Nat) (os:List Ob) (a:Addr),sm[k]? = some (some (.sto os))→n < os.length→w'.P n=some a→w.P n=some a:=fun k n os a e hn hp=>by
          obtain ⟨v,ev,_,_,_,st⟩:=hs.slot k _ e
          obtain ⟨p,h2,_⟩:=st n _ (List.getElem?_eq_getElem hn)
          have:=g.pr n p h2
          rw [hp] at this
          cases this
          exact h2
        refine ⟨w2,rfl,gr,⟨ok2,by rw [jt]; exact hs.len,fun j t e=>?_,fun j j' t u v ne e1 e2 o1 o2 ev ev'=>?_,fun j k t os a n e1 o1 e2 ev hn hp=>?_⟩,fun t v r=>?_,k2⟩
        · rcases slotc j t e with ⟨i,e1,e2⟩ | ⟨h,e1⟩
          · obtain ⟨v,hv,_,r,ow⟩:=ioslot i j t e1 e2
            by_cases ot:t.owned=true
            · refine ⟨v,hv,r.keepS k2 s'.ok (fun a ea oa=>⟨ow ot a ea,rfl⟩) (fun _=>rfl) (fun hst=>?_) fun _ a od u hu z=>z.elim .inl fun q=>q.elim (fun q=>?_) fun q=>.inr q.1⟩
              rotate_left
              · have m:=hs.ok.mu a q.1
                cases hb:w.H a with
                | none=>rw [hb] at m; exact absurd m (fun z=>z)
                | some ob =>
                  have hk:=g.kept a ob hb q.2
                  rw [hu] at hk; cases hk
                  rw [hb] at m; exact absurd m (fun z=>z)
              cases t with
              | sto os =>
                obtain ⟨t0,v0,_,l2,l3,l4,_⟩:=lent i j e1
                rw [hv] at l4; cases l4
                obtain ⟨y,ey,ry⟩:=hs.slot j t0 l2
                rw [hv] at ey; cases ey
                cases t0 with
                | val d=>cases l3
                | own xs=>obtain ⟨a,_,z,_⟩:=ry; rw [r.1] at z; cases z
                | owd xs=>obtain ⟨a,_,z,_⟩:=ry; rw [r.1] at z; cases z
                | sto os0=>exact ry.2.1.trans r.2.1.symm
              | _=>cases hst
            · cases t with
              | own xs=>exact absurd rfl ot
              | owd xs=>exact absurd rfl ot
              | sto xs=>exact absurd rfl ot
              | val d=>exact ⟨v,hv,Rep.mono k2 s'.ok d v r⟩
          · obtain ⟨v,hv,r⟩:=hs.slot j t e1
            refine ⟨v,hv,?_⟩
            by_cases ot:t.owned=true
            · refine r.keepS gr.toKeep hs.ok (fun a ea oa=>?_) (fun hst=>pzz fun i jj os' q1 q2=>?_) (fun _=>rfl) fun _ a od u hu z=>((gr.back a z).elim .inl fun q=>q.elim .inr fun q=>by rw [hu] at q; cases q)
              rotate_left
              · cases t with
                | sto os =>
                  obtain ⟨x,ex,rx,_⟩:=hs.slot jj _ q2
                  rw [rx] at ex
                  have rv:v = .non:=r.1
                  rw [rv] at hv
                  exact hs.dis j jj _ _ _ (fun z=>by subst z; exact jD h q1 rfl) e1 q2 rfl rfl hv ex
                | _=>cases hst
              have nc:¬ wc.O a:=nolent j t v a h e1 ot hv ea
              refine ⟨.inl ⟨oa,nc⟩,?_⟩
              have m:=hs.ok.mu a oa
              cases hb:w.H a with
              | none=>rw [hb] at m; exact absurd m (fun z=>z)
              | some ob=>exact g.kept a ob hb nc
            · cases t with
              | own xs=>exact absurd rfl ot
              | owd xs=>exact absurd rfl ot
              | sto xs=>exact absurd rfl ot
              | val d=>exact Rep.mono gr.toKeep hs.ok d v r
        · rcases slotc j t e1 with ⟨i,f1,f2⟩ | ⟨h,f1⟩
          · obtain ⟨v1,hv1,hi1,r1,ow1⟩:=ioslot i j t f1 f2
            rw [ev] at hv1; cases hv1
            rcases slotc j' u e2 with ⟨i',f1',f2'⟩ | ⟨h',f1'⟩
            · obtain ⟨v2,hv2,hi2,r2,ow2⟩:=ioslot i' j' u f1' f2'
              rw [ev'] at hv2; cases hv2
              have ni:i≠i':=fun z=>ne (by subst z; rw [f1] at f1'; cases f1'; rfl)
              exact s'.dis i i' t u v ni f2 f2' o1 o2 (by simp [hi1]) (by simp [hi2])
            · obtain ⟨t0,v0,_,l2,l3,l4,_⟩:=lent i j f1
              rw [ev] at l4; cases l4
              exact hs.dis j j' t0 u _ ne l2 f1' l3 o2 ev ev'
          · rcases slotc j' u e2 with ⟨i',f1',f2'⟩ | ⟨h',f1'⟩
            · obtain ⟨t0,v0,_,l2,l3,l4,_⟩:=lent i' j' f1'
              rw [ev'] at l4; cases l4
              exact hs.dis j j' t t0 _ ne f1 l2 o1 l3 ev ev'
            · exact hs.dis j j' t u v ne f1 f1' o1 o2 ev ev'
        · rcases slotc j t e1 with ⟨i,f1,f2⟩ | ⟨h,f1⟩
          · obtain ⟨v1,hv1,hi1,r1,ow1⟩:=ioslot i j t f1 f2
            rw [ev] at hv1; cases hv1
            rcases slotc k _ e2 with ⟨i',f1',f2'⟩ | ⟨h',f1'⟩
            · exact s'.sep i i' t os a n f2 o1 f2' (by simp [hi1]) hn hp
            · obtain ⟨t0,v0,_,l2,l3,l4,_⟩:=lent i j f1
              rw [ev] at l4; cases l4
              exact hs.sep j k t0 os a n l2 l3 f1' ev hn (pold k n os a f1' hn hp)
          · rcases slotc k _ e2 with ⟨i',f1',f2'⟩ | ⟨h',f1'⟩
            · obtain ⟨v2,_,r2⟩:=s'.slot i' _ f2'
              obtain ⟨v0,ev0,r0⟩:=hs.slot j t f1
              rw [ev] at ev0; cases ev0
              have ow:=r0.jc o1 (.inl rfl)
              have oa:w'.O a:=by
                have m:=hs.ok.mu a ow
                cases hb:w.H a with
                | none=>rw [hb] at m; exact absurd m (fun z=>z)
                | some ob =>
                  rw [hb] at m
                  exact s'.tV f2' hn hp (g.kept a ob hb (nolent j t _ a h f1 o1 ev (.inl rfl))) m
              rcases g.back a (.inr oa) with z | z | z
              · exact hs.ok.apart a z ow
              · exact nolent j t _ a h f1 o1 ev (.inl rfl) z
              · have m:=hs.ok.mu a ow
                have z' : w.H a=none:=z
                rw [z'] at m; exact m
            · exact hs.sep j k t os a n f1 o1 f1' ev hn (pold k n os a f1' hn hp)
        · have lim : ∀ a, jB wc w' a → jB w w2 a := fun a l => ⟨l.nf, fun o => by
              rcases o with ⟨z1,z2⟩ | ⟨z1,z2⟩
              · rcases l.old with q | q
                · exact z2 q
                · have m:=hs.ok.mu a z1
                  have q' : w.H a=none:=q
                  rw [q'] at m; exact m
              · exact l.no z1,l.old.elim (fun q=>.inl (sub a q)) fun q=>.inr q⟩
          cases t with
          | val d=>exact Rep.mono k2 s'.ok d v r
          | own xs=>obtain ⟨a,us,e,h,l,q⟩:=r; exact ⟨a,us,e,h,lim a l,ak.mono k2 s'.ok _ _ q⟩
          | owd xs=>obtain ⟨a,us,e,h,l,q⟩:=r; exact ⟨a,us,e,h,lim a l,ak.mono k2 s'.ok _ _ q⟩
          | sto xs=>exact r.elim
      dsimp only
      cases hf:fm ts with
      | fail=>exact trivial
      | ok r outs =>
        intro Q q
        refine ⟨wc,ts,rfl,scc,own,?_⟩
        rw [hf]
        intro v w' g s' rr
        obtain ⟨w2,e,g2,s2,tr,_⟩:=behind w' outs g s'
        rw [← e]
        exact q v w2 g2 s2 (tr r v rr)
      | exc c fs outs =>
        intro q Q
        refine ⟨wc,ts,rfl,scc,own,?_⟩
        rw [hf]
        intro cls d w' g s' x
        obtain ⟨w2,e,g2,s2,_,k2⟩:=behind w' outs g s'
        show W cls d σ w'.H
        rw [← e]
        refine q w2 cls d g2 s2 ⟨x.1,x.2.elim .inl fun ⟨n,a,us,e1,e2,ef,r⟩=>.inr ⟨n,a,us,e1,by rw [e]; exact e2,k2.fr a ef,ak.mono k2 s'.ok _ _ r⟩⟩
  · exact trivial
end
abbrev RA (K:PySem.W.Frag):L2.St→Wd→Wd→List Ar→List V→Prop:=fun σ _ w' as vs=>Paired (jr K σ w') as vs
structure qD (X:Cf) (es:List Expr) (m:M (List Ar)):Prop where
 ex:∃ t:WX→TA,(∀ j pn xe W,Takes (X.at j pn xe) W→iY X j xe→PA (X.at j pn xe) es (t W))∧∀ W,aR X W (RA X.K) (t W) m
structure Gq (X:Cf) (kws:List Keyword) (m:M (List Ar)):Prop where
 ex:∃ t:WX→TA,(∀ j pn xe W,Takes (X.at j pn xe) W→iY X j xe→PK (X.at j pn xe) kws (t W))∧∀ W,aR X W (RA X.K) (t W) m
def bM:M (List Ar):=ret []
def aVal (m:M D) (r:M (List Ar)):M (List Ar):=bnd m fun d=>bnd r fun as=>ret (.dv d :: as)
def mX (i:Nat) (r:M (List Ar)):M (List Ar):=bnd (aA i) fun _=>bnd r fun as=>ret (.io i :: as)
section
variable {X:Cf} {W:WX} {e:Expr} {es:List Expr}
theorem vN {t:TE} {t2:TA} {m:M D} {r:M (List Ar)} (h:aR X W (RV X.K) t m) (h2:aR X W (RA X.K) t2 r):aR X W (RA X.K) (tCons t t2) (aVal m r):=by
 refine h.bnd (k:=fun x σ H Q=>t2 σ H fun xs H2=>Q (x :: xs) H2) fun σ w w1 sm1 d v ok g1 s1 r1=>?_
 refine (h2 σ w1 sm1 s1).seq fun w2 sm2 as vs g2 s2 r2=>?_
 exact aD.now (g:=v :: vs) s2 (.cons (show jr X.K σ w2 (.dv d) v from Rep.mono g2.toKeep s1.ok _ _ r1) r2) fun Q q=>q
theorem xg {i:Nat} {t2:TA} {r:M (List Ar)} (h2:aR X W (RA X.K) t2 r):aR X W (RA X.K) (tCons (tVar i) t2) (mX i r):=fun σ w sm hs=>by
 show aD X W _ _ σ w (bK (aA i sm) _)
 unfold aA
 split
 ·rename_i t ht
  obtain ⟨v,ev,rv⟩:=hs.slot i t ht
  show aD X W _ _ σ w (bK (r sm) fun as=>ret (.io i :: as))
  have q:=(h2 σ w sm hs).seq (Rb:=RA X.K σ w) (kb:=fun xs H2 Q=>Q (v :: xs) H2) (f:=fun as=>ret (.io i :: as)) fun w2 sm2 as vs g2 s2 r2 =>
   aD.now (g:=v :: vs) s2 (.cons (show jr X.K σ w2 (.io i) v from ev) r2) fun Q q=>q
  revert q
  generalize bK (r sm) _=rr
  intro q
  cases rr with
  | fail=>exact trivial
  | ok b sm'=>exact fun Q k=>⟨v,ev,q Q k⟩
  | exc c fs sm'=>exact fun k Q=>⟨v,ev,q k Q⟩
 ·exact trivial
theorem qF:aR X W (RA X.K) tNil bM:=fun σ w sm hs=>aD.now hs (.nil) fun Q q=>q
theorem dY:qD X [] bM:=⟨fun _=>tNil,fun j pn xe W tk pw=>pa_nil,fun W=>qF⟩
theorem dZ {m:M D} {r:M (List Ar)} (h:PM X e m) (h2:qD X es r) (hs:∀ j,starEach (e :: es) (X.env j)=(false,eval e (X.env j)) :: starEach es (X.env j):=by intro _; rfl):qD X (e :: es) (aVal m r):=by
 obtain ⟨t,p,s⟩:=h.ex
 obtain ⟨t2,p2,s2⟩:=h2.ex
 exact ⟨fun W=>tCons (t W) (t2 W),fun j pn xe W tk pw=>pa_cons (p j pn xe W tk pw) (p2 j pn xe W tk pw) (hs j),fun W=>vN (s W) (s2 W)⟩
theorem mY (i:Nat) {x:Str} {p:Pos} {r:M (List Ar)} (h2:qD X es r) (hN:X.N[i]? = some x:=by rfl) (hv:∀ j,Vis (X.env j).scope x:=by intro _; first | exact Or.inl rfl | exact Or.inr (Or.inl rfl) | exact Or.inr (Or.inr rfl)) (hd:(x == ("__debug__" : Str))=false:=by decide)
  (hcd:(x == ("__classdict__" : Str))=false:=by decide) (hs:∀ j,starEach (.Name x p :: es) (X.env j)=(false,eval (.Name x p) (X.env j)) :: starEach es (X.env j):=by intro _; rfl):qD X (.Name x p :: es) (mX i r):=by
 obtain ⟨t2,p2,s2⟩:=h2.ex
 exact ⟨fun W=>tCons (tVar i) (t2 W),fun j pn xe W tk pw=>pa_cons (pe_var hN (hv j) hd hcd) (p2 j pn xe W tk pw) (hs j),fun W=>xg (s2 W)⟩
end
structure KBd (K:PySem.W.Frag) (fd:FuncData) (ps:List Str) (n:Nat) (ks:List Str) (gA:List Ar→List Ar→List Ar) (gV:List V→List V→List V):Prop where
 to:∀ (s:Shared) (us ws:List Value) (vs zs:List V),K.In s.heap→us.length=n→ws.length=ks.length→Vals vs us→Vals zs ws→∃ xs,BindsTo s fd ⟨us,ks.zip ws⟩ (ps.zip xs)∧Vals (gV vs zs) xs
 ar:∀ (σ:L2.St) (w:Wd) (as bs:List Ar) (vs zs:List V),as.length=n→bs.length=ks.length→Paired (jr K σ w) as vs→Paired (jr K σ w) bs zs→Paired (jr K σ w) (gA as bs) (gV vs zs)
theorem je {K:PySem.W.Frag} {fd:FuncData} {ps:List Str} {n:Nat} (hb:Binds K fd ps []) (hn:n=ps.length):KBd K fd ps n [] (fun as _=>as) (fun vs _=>vs) :=
 ⟨fun s us ws vs zs hk l1 l2 r1 r2=>⟨us,by
  have q:=hb s us hk (by rw [List.append_nil,l1,hn])
  rw [List.append_nil] at q
  exact q,r1⟩,fun σ w as bs vs zs l1 l2 p q=>p⟩
def cX (n m:Nat) (gA:List Ar→List Ar→List Ar) (fm:Fn) (ma mk:M (List Ar)):M T:=bnd ma fun as=>bnd mk fun bs=>if as.length=n∧bs.length=m then mW fm (gA as bs) else stuck
def tCallG (n m:Nat) (sp:Sp) (gV:List V→List V→List V) (W:WX) (t tk:TA):TE:=fun σ H Q=>t σ H fun vs H1=>tk σ H1 fun zs H2=>vs.length=n∧zs.length=m∧sp (gV vs zs) H2 Q (WE W σ)
section
variable {X:Cf} {W:WX} {k n:Nat} {f:Addr} {fd:FuncData} {ps ks:List Str} {fm:Fn} {x:Str} {p pos:Pos} {e:Expr} {es:List Expr} {kw:Keyword} {kws:List Keyword} {gA:List Ar→List Ar→List Ar} {gV:List V→List V→List V} {ma mk:M (List Ar)}
theorem vO {m:Nat} {t tk:TA} (hb:∀ σ w as bs vs zs,as.length=n→bs.length=m→Paired (jr X.K σ w) as vs→Paired (jr X.K σ w) bs zs→Paired (jr X.K σ w) (gA as bs) (gV vs zs)) (ha:aR X W (RA X.K) t ma) (hk:aR X W (RA X.K) tk mk) :
  aR X W (RT X.K) (tCallG n m (jZ X.K X.mg fm) gV W t tk) (cX n m gA fm ma mk):=by
 refine ha.bnd (k:=fun vs σ H Q=>tk σ H fun zs H2=>vs.length=n∧zs.length=m∧jZ X.K X.mg fm (gV vs zs) H2 Q (WE W σ)) fun σ w w1 sm1 as vs ok g1 s1 r1=>?_
 refine (hk σ w1 sm1 s1).seq fun w2 sm2 bs zs g2 s2 r2=>?_
 split
 ·rename_i hl
  have r1' : Paired (jr X.K σ w2) as vs:=Paired.yM r1 fun a v h=>h.mono g2.toKeep s1.ok
  have h1:vs.length=n:=by rw [← Paired.length r1']; exact hl.1
  have h2:zs.length=m:=by rw [← Paired.length r2]; exact hl.2
  have q:=uQ (W:=W) (fm:=fm) s2 (hb σ w2 as bs vs zs hl.1 hl.2 r1' r2)
  have g12:=g1.trans s1.ok g2
  revert q
  generalize mW fm (gA as bs) sm2=rr
  intro q
  cases rr with
  | fail=>exact trivial
  | ok b sm'=>exact fun Q k=>⟨h1,h2,q Q fun g' w' g3 s3 r3=>k g' w' g3 s3 (r3.back g12 s2.ok)⟩
  | exc c fs sm'=>exact fun k Q=>⟨h1,h2,q k Q⟩
 ·exact trivial
theorem Ba {Y:Cx} {sp:Sp} {W:WX} {pins:List (Addr × Obj)} {σ:L2.St} {H:Hp} {s:Shared} {Q:VK} {us ws:List Value} {vs zs:List V} (F:FnOk Y.prog Y.w Y.K Y.mg Y.base (L2.CX Y.prog Y.w) k f fd ps sp) (hr:Room k Y.A) (hb:KBd Y.K fd ps n ks gA gV) (tk:Takes Y W)
  (I:Inv Y pins σ H s) (r:Vals vs us) (rz:Vals zs ws) (l1:vs.length=n) (l2:zs.length=ks.length) (h:sp (gV vs zs) H Q (WE W σ)):wpAny (model Y.prog Y.w) Y.A (call (.ref f) us (ks.zip ws)) (EP Y pins σ Q) Y.xe s:=by
 obtain ⟨xs,hto,hrel⟩:=hb.to s us ws vs zs I.kIn (r.length.symm.trans l1) (rz.length.symm.trans l2) r rz
 refine wpAny_call (codeAny_mono (F.run Y.A Y.stack s H ⟨us,ks.zip ws⟩ xs (gV vs zs) Q (WE W σ) hr I.env0 hto hrel h) fun r s' hq=>?_)
 cases r with
 | error e=>exact passAt tk σ pins H s e s' I hq
 | ok fl =>
  cases fl with
  | ret u=>exact I.after hq
  | next=>exact False.elim hq
  | brk=>exact False.elim hq
  | cont=>exact False.elim hq
abbrev DW (X:Cf) (k:Nat) (f:Addr) (fd:FuncData) (ps:List Str) (fm:Fn):Prop:=FnOk X.X.prog X.X.w X.X.K X.X.mg X.X.base (L2.CX X.X.prog X.X.w) k f fd ps (jZ X.K X.mg fm)
theorem xq (F:DW X k f fd ps fm) (hr:Room k X.A) (hg:∀ j,(X.env j).kindOf x=some .globalImplicit) (hm:X.mg x=some (.ref f)) (hk:PySem.W.keepIn X.K (.ref f)=true) (hb:KBd X.K fd ps n [] gA gV) (ha:qD X (e :: es) ma)
  (hdb:(x == ("__debug__" : Str))=false:=by decide) (he:∀ j,starEach (e :: es) (X.env j)=(false,eval e (X.env j)) :: starEach es (X.env j):=by intro _; rfl) (hpl:∀ j,(backTo pos (starEach es (X.env j))).any (·.1)=false:=by intro _; rfl) :
  PF X (.Call (.Name x p) (e :: es) [] pos) (cX n 0 gA fm ma bM):=by
 obtain ⟨t,q,s⟩:=ha.ex
 refine ⟨fun W=>tCallG n 0 (jZ X.K X.mg fm) gV W (t W) tNil,fun j pn xe W tk pw=>⟨fun pins s σ H Q I h=>?_⟩,fun W=>vO (fun σ w as bs vs zs h1 h2=>hb.ar σ w as bs vs zs h1 h2) (s W) qF⟩
 refine wpAny_Call_Name_kw (ld_glob I (hg j) hm ?_ hdb)
 refine PySem.W.callWith_K (h₀:=X.X.base) I.ok.mod.kin hk (thn ((q j pn xe W tk pw).run pos pins s σ H _ I h) fun us s1 ⟨vs,H1,I1,r,q⟩=>⟨I1.kIn,?_⟩) (he j) (hpl j)
 exact Ba (Y:=X.at j pn xe) (ks:=[]) (ws:=[]) F hr hb tk I1 r .nil q.1 q.2.1 q.2.2
end
def d7 (ks:List Nat) (n:Nat) (s:Sg):Sg:=(List.range n).map fun i=>if i∈ks then (s[i]?).join else none
def endF (ks:List Nat) (n:Nat):R Fl→R T
 | .ok .nx s=>.ok (.val .non) (d7 ks n s)
 | .ok (.rt t) s=>.ok t (d7 ks n s)
 | .ok _ _=>.fail
 | .exc c fs s=>.exc c fs (d7 ks n s)
 | .fail=>.fail
def fnOf (ks:List Nat) (n nN:Nat) (mb:M Fl):Fn:=fun ts=>if ts.length=n then endF ks n (mb (ts.map some++List.replicate (nN - n) none)) else .fail
def jy (X:Cx):Cf:=⟨X,Unit,fun _=>⟨X.s_0,X.H_0,X.env,X.outer,X.ex,X.fn⟩⟩
theorem iU {K:PySem.W.Frag} {w:Wd} {s:Sg} {σ:L2.St} {ks:List Nat} {n:Nat} {vs:List V} (h:SR K w s σ) (hl:vs.length=n) (hk:∀ i∈ks,i < n→σ[i]? = (vs.map some)[i]?):SR K w (d7 ks n s) (vs.map some):=by
 have at_:∀ (i:Nat) (t:T),(d7 ks n s)[i]? = some (some t)→i∈ks∧i < n∧s[i]? = some (some t):=fun i t e=>by
  unfold d7 at e
  rw [List.getElem?_map] at e
  cases hi:(List.range n)[i]? with
  | none=>rw [hi] at e; cases e
  | some j =>
   rw [hi] at e
   obtain ⟨hl,ej⟩:=List.getElem?_eq_some_iff.mp hi
   rw [List.getElem_range] at ej
   subst ej
   rw [List.length_range] at hl
   simp only [Option.map_some,Option.some.injEq] at e
   split at e
   ·rename_i hm
    refine ⟨hm,hl,?_⟩
    cases hs:s[i]? with
    | none=>rw [hs] at e; cases e
    | some o=>rw [hs] at e; simp only [Option.join_some] at e; rw [e]
   ·cases e
 refine ⟨h.ok,by simp [d7,hl],fun i t e=>?_,fun i j t u v ne e1 e2 o1 o2 ev=>?_,fun i j t os a m e1 o1 e2 ev hm=>?_⟩
 ·obtain ⟨h1,h2,h3⟩:=at_ i t e
  obtain ⟨v,ev,r⟩:=h.slot i t h3
  exact ⟨v,by rw [← hk i h1 h2]; exact ev,r⟩
 ·obtain ⟨h1,h2,h3⟩:=at_ i t e1
  obtain ⟨g1,g2,g3⟩:=at_ j u e2
  rw [← hk i h1 h2] at ev
  rw [← hk j g1 g2]
  exact h.dis i j t u v ne h3 g3 o1 o2 ev
 ·obtain ⟨h1,h2,h3⟩:=at_ i t e1
  obtain ⟨g1,g2,g3⟩:=at_ j _ e2
  rw [← hk i h1 h2] at ev
  exact h.sep i j t os a m h3 o1 g3 ev hm
theorem qG {K:PySem.W.Frag} {w:Wd} {ts:List T} {vs:List V} (N:List Str) (h:SR K w (ts.map some) (vs.map some)):SR K w (ts.map some++List.replicate (N.length - ts.length) none) (L2.start N vs):=by
 have hl:ts.length=vs.length:=by simpa using h.len
 have lo:∀ (i:Nat) (t:T),(ts.map some++List.replicate (N.length - ts.length) none)[i]? = some (some t)→i < vs.length∧(ts.map some)[i]? = some (some t):=fun i t e=>by
  by_cases hi:i < (ts.map some).length
  ·rw [List.getElem?_append_left hi] at e
   exact ⟨by rw [← hl]; simpa using hi,e⟩
  ·rw [List.getElem?_append_right (Nat.le_of_not_lt hi)] at e
   rw [List.getElem?_replicate] at e
   split at e
   ·cases e
   ·cases e
 have st:∀ i:Nat,i < vs.length→(L2.start N vs)[i]? = (vs.map some)[i]?:=fun i hi=>by
  unfold L2.start
  rw [List.getElem?_append_left (by simpa using hi)]
 refine ⟨h.ok,by unfold L2.start; simp [hl],fun i t e=>?_,fun i j t u v ne e1 e2 o1 o2 ev=>?_,fun i j t os a m e1 o1 e2 ev hm=>?_⟩
 ·obtain ⟨h1,h2⟩:=lo i t e
  obtain ⟨v,ev,r⟩:=h.slot i t h2
  exact ⟨v,by rw [st i h1]; exact ev,r⟩
 ·obtain ⟨h1,h2⟩:=lo i t e1
  obtain ⟨g1,g2⟩:=lo j u e2
  rw [st i h1] at ev
  rw [st j g1]
  exact h.dis i j t u v ne h2 g2 o1 o2 ev
 ·obtain ⟨h1,h2⟩:=lo i t e1
  obtain ⟨g1,g2⟩:=lo j _ e2
  rw [st i h1] at ev
  exact h.sep i j t os a m h2 o1 g2 ev hm
section
variable {P:Program} {w:World} {K:PySem.W.Frag} {mg:Str→Option Value} {base:Heap}
theorem fn_ok {x qual:Str} {params:Arguments} {body:List Stmt} {scope:Scope} {dvs:List V} {kws:List (Str × V)} {f:Addr} {fd:FuncData} {N ps:List Str} {k:Nat} {ks:List Nat} {mb:M Fl} (F:FunD K x qual params body scope dvs kws f fd) (S:FnScope N ps scope) (n nN:Nat) (hn:ps.length=n) (hnN:N.length=nN)
  (hbody:∀ (cdv:Value) (A:Around) (outer:List Env) (s:Shared) (H:Hp) (E:XK),Room k (A.deeper (envOfC qual scope s.heap.objs.size f cdv)) →
   cD (jy (cxOf (L2.CX P w) P w K mg base N qual scope f cdv A outer s H E)) ks body mb):FnOk P w K mg base (L2.CX P w) (k+1) f fd ps (jZ K mg (fnOf ks n nN mb)):=by
 subst hn hnN
 refine F.ok S (fun vs H Q E h=>?_) (fun cdv A outer s H vs Q E hr h=>?_)
 ·obtain ⟨wd,ts,_,hs,_,h⟩:=h
  have hlen:ts.length=vs.length:=by simpa using hs.len
  by_cases hl:ts.length=ps.length
  ·rw [← hlen]; exact hl
  ·have e:fnOf ks ps.length N.length mb ts = .fail:=if_neg hl
   rw [e] at h
   exact h.elim
 ·obtain ⟨wd,ts,rfl,hs,ho,h⟩:=h
  obtain ⟨t,p,sim⟩:=(hbody cdv A outer s wd.H E hr).ex
  have hlen:ts.length=vs.length:=by simpa using hs.len
  by_cases hl:ts.length=ps.length
  ·have e:fnOf ks ps.length N.length mb ts=endF ks ps.length (mb (ts.map some++List.replicate (N.length - ps.length) none)):=if_pos hl
   rw [e] at h
   have hlv:vs.length=ps.length:=by rw [← hlen]; exact hl
   refine ⟨t (fun cls d _ H'=>E cls d H'),p () _ _ _ (takes_of rfl rfl rfl rfl) (passes_of rfl),?_⟩
   have ss:=qG N hs
   rw [hl] at ss
   have q:=sim (fun cls d _ H'=>E cls d H') (L2.start N vs) wd _ ss
   have kst:∀ (σ' : L2.St),KS ks (L2.start N vs) σ'→∀ i∈ks,i < ps.length→σ'[i]? = (vs.map some)[i]?:=fun σ' k1 i hi hlt=>by
    rw [k1 i hi]
    unfold L2.start
    rw [List.getElem?_append_left (by simpa [hlv] using hlt)]
   cases hm:mb (ts.map some++List.replicate (N.length - ps.length) none) with
   | fail=>rw [hm] at h; exact h.elim
   | exc c fs s' =>
    rw [hm] at h q
    exact q (fun σ' w' cls d g s1 k1 x=>h cls d w' g (iU s1 hlv (kst σ' k1)) x) _
   | ok fl s' =>
    rw [hm] at h q
    cases fl with
    | nx=>exact q _ fun σ' w' g s1 k1=>h .non w' g (iU s1 hlv (kst σ' k1)) (show Rep K w' .non V.non from nW)
    | bk=>exact h.elim
    | ct=>exact h.elim
    | rt tt=>exact q _ fun v σ' w' g s1 k1 r=>h v w' g (iU s1 hlv (kst σ' k1)) r
  ·have e:fnOf ks ps.length N.length mb ts = .fail:=if_neg hl
   rw [e] at h
   exact h.elim
end
end Mir
namespace Mir
open PySem PySem.Spec PyProof.Rows L2
structure fO (w w' : Wd):Prop where
 lst:∀ a o,w.F a→w.H a=some o→w'.H a=some o
 fix:∀ a o,w.H a=some o→¬ Mut (some o)→w'.H a=some o
 fr:∀ b,w.F b→w'.F b
 pr:∀ n a,w.P n=some a→w'.P n=some a
theorem fO.yj {K:PySem.W.Frag} {w w' : Wd} (k:fO w w') {a:Addr} {vs:List V} (h:SqT K w.H a vs):SqT K w'.H a vs:=by
 rcases h with (h | ⟨u,h⟩) | h
 ·exact .inl (.inl (k.fix a _ h fun z=>z))
 ·exact .inl (.inr ⟨u,k.fix a _ h fun z=>z⟩)
 ·exact .inr h
mutual
theorem Rep.cC {K:PySem.W.Frag} {w w' : Wd} (k:fO w w'):∀ (d:D) (v:V),Rep K w d v→Rep K w' d v
 | .non,v,h=>h
 | .bl b,v,h=>h
 | .int i,v,h=>h
 | .str x,v,h=>h
 | .tup ds,v,h=>by
  unfold Rep at h ⊢
  obtain ⟨a,vs,e,s,r⟩:=h
  exact ⟨a,vs,e,k.yj s,ak.cC k ds vs r⟩
 | .lst ds,v,h=>by
  unfold Rep at h ⊢
  obtain ⟨a,vs,e,s,f,r⟩:=h
  exact ⟨a,vs,e,k.lst a _ f s,k.fr a f,ak.cC k ds vs r⟩
 | .dic ks ds,v,h=>by
  unfold Rep at h ⊢
  obtain ⟨a,vs,e,s,f,l,r⟩:=h
  refine ⟨a,vs,e,?_,k.fr a f,l,ak.cC k ds vs r⟩
  rcases s with s | ⟨u,s⟩
  ·exact .inl (k.lst a _ f s)
  ·exact .inr ⟨u,k.lst a _ f s⟩
 | .exn c ns ds,v,h=>by
  unfold Rep at h ⊢
  obtain ⟨a,C,d,vs,e,hc,s,f,l,r,q⟩:=h
  refine ⟨a,C,d,vs,e,hc,k.lst a _ f s,k.fr a f,l,ak.cC k ds vs r,?_⟩
  rcases q with q | ⟨n,x,ex,hx,fx⟩
  ·exact .inl q
  ·exact .inr ⟨n,x,ex,k.lst x _ fx hx,k.fr x fx⟩
 | .scr ns,v,h=>by
  unfold Rep at h ⊢
  obtain ⟨a,e,q⟩:=h
  refine ⟨a,e,q.elim (fun z=>.inl ⟨?_,k.fr a z.2⟩) .inr⟩
  rcases z.1 with s | ⟨u,s⟩
  ·exact .inl (k.lst a _ z.2 s)
  ·exact .inr ⟨u,k.lst a _ z.2 s⟩
 | .ob n,v,h=>by
  unfold Rep at h ⊢
  obtain ⟨a,e,q⟩:=h
  exact ⟨a,e,k.pr n a q⟩
theorem ak.cC {K:PySem.W.Frag} {w w' : Wd} (k:fO w w'):∀ (ds:List D) (vs:List V),ak K w ds vs→ak K w' ds vs
 | [],vs,h=>by unfold ak at h ⊢; exact h
 | d :: ds,vs,h=>by
  unfold ak at h ⊢
  obtain ⟨v,r,e,h1,h2⟩:=h
  exact ⟨v,r,e,Rep.cC k d v h1,ak.cC k ds r h2⟩
end
theorem j9.cC {K:PySem.W.Frag} {w w' : Wd} (k:fO w w') {o:Ob} {a:Addr} (h:j9 K w o a) (e:w'.H a=w.H a):j9 K w' o a:=by
 cases o with
 | ins c fs=>obtain ⟨C,dx,vs,h1,h2,h3⟩:=h; exact ⟨C,dx,vs,h1,e.trans h2,ak.cC k _ _ h3⟩
 | lst xs=>obtain ⟨vs,h2,h3⟩:=h; exact ⟨vs,e.trans h2,ak.cC k _ _ h3⟩
 | dct kvs=>obtain ⟨vs,h2,h3⟩:=h; exact ⟨vs,e.trans h2,ak.cC k _ _ h3⟩
 | lkd kvs=>obtain ⟨vs,od,h2,h3⟩:=h; exact ⟨vs,od,e.trans h2,ak.cC k _ _ h3⟩
theorem fO.wr {w:Wd} {a:Addr} {u:HO} (nf:¬ w.F a) (hu:w.H a=some u) (mu:Mut (some u)) (o:HO):fO w (w.wr a o) :=
  ⟨fun b x f h=>by show upd w.H a o b=_; rw [upd_ne (fun e=>nf (by rw [← e]; exact f))]; exact h,
   fun b x h n=>by show upd w.H a o b=_; rw [upd_ne (fun e=>n (by rw [e,hu] at h; cases h; exact mu))]; exact h,fun b f=>f,fun _ _ h=>h⟩
theorem Wd.Ok.uR {w:Wd} (ok:w.Ok) {a:Addr} {o u:HO} (no:¬ w.O a) (hu:w.H a=some u):(w.wr a o).Ok:=⟨ok.apart,fun b ob=>by
 show Mut (upd w.H a o b)
 rw [upd_ne (fun e=>no (by rw [← e]; exact ob))]; exact ok.mu b ob,fun b f=>by
 by_cases e:b=a
 ·exact ⟨o,by show upd w.H a o b=_; rw [e]; exact upd_same⟩
 ·obtain ⟨x,h⟩:=ok.trk b f
  exact ⟨x,by show upd w.H a o b=_; rw [upd_ne e]; exact h⟩,ok.inj,ok.fix⟩
theorem SR.uR {K:PySem.W.Frag} {w:Wd} {sm:Sg} {σ:L2.St} (s:SR K w sm σ) {a:Addr} {u o:HO} (nf:¬ w.F a) (no:¬ w.O a) (hu:w.H a=some u) (mu:Mut (some u)):SR K (w.wr a o) sm σ:=by
 have k:=fO.wr nf hu mu o
 refine ⟨s.ok.uR no hu,s.len,fun i t h=>?_,s.dis,s.sep⟩
 obtain ⟨v,e,r⟩:=s.slot i t h
 refine ⟨v,e,?_⟩
 cases t with
 | val d=>exact Rep.cC k d v r
 | own xs =>
  obtain ⟨b,vs,eb,h1,h2,h3⟩:=r
  exact ⟨b,vs,eb,by show upd w.H a o b=_; rw [upd_ne (fun e=>no (by rw [← e]; exact h2))]; exact h1,h2,ak.cC k _ _ h3⟩
 | owd xs =>
  obtain ⟨b,vs,eb,h1,h2,h3⟩:=r
  exact ⟨b,vs,eb,by show upd w.H a o b=_; rw [upd_ne (fun e=>no (by rw [← e]; exact h2))]; exact h1,h2,ak.cC k _ _ h3⟩
 | sto os =>
  exact ⟨r.1,r.2.1,r.2.2.1,fun n o' q=>by
   obtain ⟨p,h1,h2,h3⟩:=r.2.2.2 n o' q
   exact ⟨p,h1,h2,h3.cC k (by show upd w.H a o p=_; rw [upd_ne (fun e=>no (s.tV h (lU q) (by rw [← e]; exact h1) hu mu))])⟩⟩
theorem Gr.uR {w0 w:Wd} (g:Gr w0 w) {a:Addr} (o:HO) (h0:w0.H a=none):Gr w0 (w.wr a o) :=
 ⟨⟨fun b x h n=>by show upd w.H a o b=_; rw [upd_ne (ne_of_none h h0)]; exact g.kept b x h n,g.fr,g.pr⟩,g.back,fun b x h=>by
  obtain ⟨x',e⟩:=g.there b x h
  exact ⟨x',by show upd w.H a o b=_; rw [upd_ne (ne_of_none h h0)]; exact e⟩,g.zz⟩
def bT (sm:Sg):List Nat→Sg
 | []=>sm
 | v :: vs=>(bT sm vs).set v none
theorem SR.wipe {K:PySem.W.Frag} {w:Wd} {sm:Sg} {σ:L2.St} (s:SR K w sm σ):∀ vs:List Nat,SR K w (bT sm vs) (wipe σ vs)
 | []=>s
 | v :: vs=>(SR.wipe s vs).forget v
def bW (sm0:Sg) (sm:Sg):List Nat→Sg
 | []=>sm
 | v :: vs=>(bW sm0 sm vs).set v (match sm0[v]? with
  | some (some (.val d))=>some (.val d)
  | _=>none)
theorem wipe_out {σ:L2.St} {i:Nat}:∀ {vs:List Nat},i∉vs→(wipe σ vs)[i]? = σ[i]?
 | [],h=>rfl
 | v :: vs,h=>by
  unfold wipe
  rw [List.getElem?_set_ne (fun e=>h (by simp [e])),wipe_out (fun z=>h (by simp [z]))]
theorem dM {sm0 sm:Sg} {i:Nat}:∀ {vs:List Nat},i∉vs→(bW sm0 sm vs)[i]? = sm[i]?
 | [],h=>rfl
 | v :: vs,h=>by
  unfold bW
  rw [List.getElem?_set_ne (fun e=>h (by simp [e])),dM (fun z=>h (by simp [z]))]
theorem mZ {sm0 sm:Sg}:∀ {vs:List Nat},(bW sm0 sm vs).length=sm.length
 | []=>rfl
 | v :: vs=>by unfold bW; rw [List.length_set,mZ]
theorem fJ {sm0 sm:Sg} {i:Nat} {t:T}:∀ {vs:List Nat},i∈vs→(bW sm0 sm vs)[i]? = some (some t)→∃ d,t = .val d∧sm0[i]? = some (some (.val d))
 | [],h,e=>by simp at h
 | v :: vs,h,e=>by
  unfold bW at e
  by_cases hv:v=i
  ·subst hv
   by_cases hl:v < (bW sm0 sm vs).length
   ·rw [List.getElem?_set_self hl] at e
    split at e
    ·rename_i d hd
     cases e
     exact ⟨d,rfl,hd⟩
    ·cases e
   ·rw [List.getElem?_eq_none (by simpa using hl)] at e; cases e
  ·rw [List.getElem?_set_ne hv] at e
   rcases List.mem_cons.mp h with z | z
   ·exact absurd z.symm hv
   ·exact fJ z e
theorem SR.bW {K:PySem.W.Frag} {w0 w:Wd} {sm0 sm:Sg} {σ:L2.St} {vs:List Nat} (s0:SR K w0 sm0 σ) (g:Gr w0 w) (s:SR K w sm (L2.wipe σ vs)):SR K w (Mir.bW sm0 sm vs) σ:=by
 refine ⟨s.ok,by rw [mZ,s.len,wipe_length],fun i t e=>?_,fun i j t u v ne e1 e2 o1 o2 ev=>?_,fun i j t os a n e1 o1 e2 ev hn=>?_⟩
 ·by_cases hi:i∈vs
  ·obtain ⟨d,rfl,e0⟩:=fJ hi e
   obtain ⟨v,ev,r⟩:=s0.slot i _ e0
   exact ⟨v,ev,Rep.mono g.toKeep s0.ok d v r⟩
  ·rw [dM hi] at e
   obtain ⟨v,ev,r⟩:=s.slot i t e
   rw [wipe_out hi] at ev
   exact ⟨v,ev,r⟩
 ·by_cases hi:i∈vs
  ·obtain ⟨d,rfl,e0⟩:=fJ hi e1
   cases o1
  ·by_cases hj:j∈vs
   ·obtain ⟨d,rfl,e0⟩:=fJ hj e2
    cases o2
   ·rw [dM hi] at e1
    rw [dM hj] at e2
    have q:=s.dis i j t u v ne e1 e2 o1 o2 (by rw [wipe_out hi]; exact ev)
    rw [wipe_out hj] at q
    exact q
 ·by_cases hi:i∈vs
  ·obtain ⟨d,rfl,e0⟩:=fJ hi e1
   cases o1
  ·by_cases hj:j∈vs
   ·obtain ⟨d,e0,_⟩:=fJ hj e2
    cases e0
   ·rw [dM hi] at e1
    rw [dM hj] at e2
    exact s.sep i j t os a n e1 o1 e2 (by rw [wipe_out hi]; exact ev) hn
def ju (a:GA) (tt:M Bool) (te:M D) (vs:List Nat):List D→List D→M (List D)
 | [],acc=>ret acc
 | d :: ds,acc=>bnd (kW a d) fun _=>bnd tt fun b=>if b=true then bnd te fun y sm=>if fits (acc.length+1) then ju a tt te vs ds (acc++[y]) (bT sm vs) else .fail else fun sm=>ju a tt te vs ds acc (bT sm vs)
def yN (mi:M (List D)) (a:GA) (tt:M Bool) (te:M D) (vs:List Nat):M T:=bnd mi fun ds sm=>match ju a tt te vs ds [] (bT sm vs) with
 | .ok acc sm'=>.ok (.own acc) (bW sm sm' vs)
 | _=>.fail
def Cf.blk (C:Cf) (scope:Scope):Cf:=⟨C.X,C.I × Shared × Hp × Addr × List (Str × Addr) × List Addr,fun q=>⟨q.2.1,q.2.2.1,compEnvC scope q.2.2.2.2.1 q.2.2.2.1 (C.v q.1).env,C.X.stack,q.2.2.2.2.2,fun x=>scope.names.lookup x == some .cell⟩⟩
structure yO (X:Cf) (ifs:List Expr) (m:M Bool):Prop where
 ex:∃ t:WX→TT,(∀ j pn xe W,Takes (X.at j pn xe) W→iY X j xe→PTs (X.at j pn xe) ifs (t W))∧∀ W,aR X W (fun _ _ _ a b=>a=b) (t W) m
theorem vP {X:Cf}:yO X [] (ret true):=⟨fun _=>tYes,fun j pn xe W tk pw=>pts_nil,fun W σ w sm hs=>aD.now hs rfl fun Q q=>q⟩
abbrev W0:WX:=fun _ _ _ _=>False
section
variable {X:Cf} {W:WX}
theorem yP {g:TG} {tt:TT} {te:TE} {a:GA} {mt:M Bool} {me:M D} {vs:List Nat} {J:It} {ds:List Mir.D} {σ:L2.St} {w:Wd} {sm:Sg} {Q:VK} {p:Addr} {acc:List Mir.D} {sm2:Sg}
    (hg:∀ σ w sm d v,SR X.K w sm σ→Rep X.K w d v→o8 X vs (fun Q=>g v σ w.H Q) σ w (a d sm)) (ht:aR X W0 (fun _ _ _ a b=>a=b) tt mt) (he:aR X W0 (RV X.K) te me)
    (hJ:Goes X.K w ds J) (ok:w.Ok) (hs:SR X.K w sm (wipe σ vs)) (hp:w.H p=none) (hr:ju a mt me vs ds [] sm = .ok acc sm2)
    (q:∀ w' us,Gr w w'→SR X.K w' sm2 (wipe σ vs)→w'.H p=some (.lst us)→jB w w' p→ak X.K w' acc us→Q (.ref p) w'.H) :
    ∃ Wi:Nat→Nat→Hp→Prop,(∃ m,Wi 0 m (upd w.H p (.lst [])))∧∀ i m H,Wi i m H →
      (J.stop i H∧Q (.ref p) H)∨(J.go i H∧∃ Nx:Hp→Prop,(∀ H',Nx H'→∃ m',m' < m∧Wi (i+1) m' H')∧∀ x H',J.yld i H x H'→g x (wipe σ vs) H' fun σ2 H2=>wipe σ2 vs=wipe σ vs∧tt σ2 H2 fun b H3 =>
        if b=true then te σ2 H3 fun y H4=>∃ acc,H4 p=some (.lst acc)∧acc.length < sizeLine∧Nx (upd H4 p (.lst (acc++[y]))) else Nx H3):=by
  have nfp:¬ w.F p:=fun z=>by obtain ⟨o,e⟩:=ok.trk p z; rw [hp] at e; cases e
  have nop:¬ w.O p:=fun z=>by have m:=ok.mu p z; rw [hp] at m; exact m
  refine ⟨fun i m H=>m=ds.length - i∧i≤ds.length∧∃ w' sm' ac us,w'.H=H∧Gr w w'∧SR X.K w' sm' (wipe σ vs)∧w'.H p=some (.lst us)∧jB w w' p∧ak X.K w' ac us∧ju a mt me vs (ds.drop i) ac sm' = .ok acc sm2,⟨ds.length,by simp,Nat.zero_le _,w.wr p (.lst []),sm,[],[],rfl,?_,?_,upd_same,⟨nfp,nop,.inr hp⟩,ak.nil,hr⟩,?_⟩
  · exact (Al.tup ok hp (.lst [])).gr
  · exact hs.al (Al.tup ok hp (.lst []))
  rintro i m H ⟨rfl,hi,w1,sm1,ac,us,rfl,g1,s1,e1,l1,r1,hrun⟩
  obtain ⟨go,stop⟩:=hJ w1 g1.toKeep s1.ok
  by_cases hlt:i < ds.length
  · refine .inr ?_
    have hd:ds[i]? = some ds[i]:=List.getElem?_eq_getElem hlt
    obtain ⟨go1,yl⟩:=go i ds[i] hd
    refine ⟨go1,fun H=>i+1≤ds.length∧∃ w' sm' ac us,w'.H=H∧Gr w w'∧SR X.K w' sm' (wipe σ vs)∧w'.H p=some (.lst us)∧jB w w' p∧ak X.K w' ac us∧ju a mt me vs (ds.drop (i+1)) ac sm' = .ok acc sm2,fun H' hN=>⟨ds.length - (i+1),by omega,rfl,hN⟩,fun x H' hy=>?_⟩
    obtain ⟨w2,al,rfl,rx⟩:=yl x H' hy
    have s2:=s1.al al
    have g2:=g1.trans s1.ok al.gr
    have keepP:∀ {wa wb:Wd},Gr wa wb→¬ wa.F p→¬ wa.O p→wa.H p=some (.lst us)→wb.H p=some (.lst us)∧¬ wb.F p∧¬ wb.O p:=fun {wa wb} g nf no e=>by
      refine ⟨g.kept p _ e no,fun z=>?_,fun z=>?_⟩
      · rcases g.back p (.inl z) with f | f | f
        · exact nf f
        · exact no f
        · rw [e] at f; cases f
      · rcases g.back p (.inr z) with f | f | f
        · exact nf f
        · exact no f
        · rw [e] at f; cases f
    obtain ⟨p2,nf2,no2⟩:=keepP al.gr l1.nf l1.no e1
    rw [List.drop_eq_getElem_cons hlt] at hrun
    have e3:bK (kW a ds[i] sm1) (fun _=>bnd mt fun b=>if b=true then bnd me fun y sm=>if fits (ac.length+1) then ju a mt me vs (ds.drop (i+1)) (ac++[y]) (bT sm vs) else .fail else fun sm=>ju a mt me vs (ds.drop (i+1)) ac (bT sm vs)) = .ok acc sm2:=hrun
    have q1:=hg (wipe σ vs) w2 sm1 ds[i] x s2 rx
    unfold kW at e3
    cases ha:a ds[i] sm1 with
    | none=>rw [ha] at e3; cases e3
    | some sm3 =>
      rw [ha] at e3 q1
      refine q1 _ fun σ3 s3 o3=>?_
      have hw:wipe σ3 vs=wipe σ vs:=by
        apply List.ext_getElem?
        intro j
        by_cases hj:j∈vs
        · have aux : ∀ (τ : L2.St), τ.length = σ.length → (wipe τ vs)[j]? = if j < σ.length then some none else none := fun τ hl => by
            have:∀ (us:List Nat),j∈us→(wipe τ us)[j]? = if j < τ.length then some none else none:=fun us=>by
              induction us with
              | nil=>intro h; simp at h
              | cons v r ih =>
                intro h
                unfold wipe
                by_cases e:v=j
                · subst e
                  by_cases hl:v < (wipe τ r).length
                  · rw [List.getElem?_set_self hl]; rw [wipe_length] at hl; rw [if_pos hl]
                  · rw [List.getElem?_eq_none (by simpa using hl)]; rw [wipe_length] at hl; rw [if_neg hl]
                · rw [List.getElem?_set_ne e]
                  rcases List.mem_cons.mp h with z | z
                  · exact absurd z.symm e
                  · exact ih z
            rw [this vs hj,hl]
          rw [aux σ3 (by rw [o3.1,wipe_length]),aux σ rfl]
        · rw [wipe_out hj,o3.2 j hj]
      refine ⟨hw,?_⟩
      have e4:bK (mt sm3) (fun b=>if b=true then bnd me fun y sm=>if fits (ac.length+1) then ju a mt me vs (ds.drop (i+1)) (ac++[y]) (bT sm vs) else .fail else fun sm=>ju a mt me vs (ds.drop (i+1)) ac (bT sm vs)) = .ok acc sm2:=e3
      have q2:=ht σ3 w2 sm3 s3
      cases hm:mt sm3 with
      | fail=>rw [hm] at e4; cases e4
      | exc c fs sm4=>rw [hm] at e4; cases e4
      | ok b sm4 =>
        rw [hm] at e4 q2
        refine q2 _ fun b' w5 g5 s5 eb=>?_
        subst eb
        obtain ⟨p5,nf5,no5⟩:=keepP g5 nf2 no2 p2
        have g25:=g2.trans s2.ok g5
        have r5:ak X.K w5 ac us:=ak.mono g5.toKeep s2.ok _ _ (ak.mono al.gr.toKeep s1.ok _ _ r1)
        cases b with
        | false =>
          have e5:ju a mt me vs (ds.drop (i+1)) ac (bT sm4 vs) = .ok acc sm2:=e4
          exact ⟨hlt,w5,bT sm4 vs,ac,us,rfl,g25,by rw [← hw]; exact s5.wipe vs,p5,⟨nf5,no5,.inr hp⟩,r5,e5⟩
        | true =>
          have e5:bK (me sm4) (fun y sm=>if fits (ac.length+1) then ju a mt me vs (ds.drop (i+1)) (ac++[y]) (bT sm vs) else .fail) = .ok acc sm2:=e4
          have q3:=he σ3 w5 sm4 s5
          show te σ3 w5.H _
          cases hy2:me sm4 with
          | fail=>rw [hy2] at e5; cases e5
          | exc c fs sm4=>rw [hy2] at e5; cases e5
          | ok y sm6 =>
            rw [hy2] at e5 q3
            refine q3 _ fun vy w6 g6 s6 ry=>?_
            obtain ⟨p6,nf6,no6⟩:=keepP g6 nf5 no5 p5
            have g26:=g25.trans s5.ok g6
            have r6:ak X.K w6 ac us:=ak.mono g6.toKeep s5.ok _ _ r5
            have e6:(if fits (ac.length+1) then ju a mt me vs (ds.drop (i+1)) (ac++[y]) (bT sm6 vs) else R.fail) = .ok acc sm2:=e5
            split at e6
            · rename_i hf
              have hl:=dJ hf
              have kr:=fO.wr nf6 p6 trivial (.lst (us++[vy]))
              refine ⟨us,p6,by rw [← r6.len]; omega,hlt,w6.wr p (.lst (us++[vy])),bT sm6 vs,ac++[y],us++[vy],rfl,g26.uR _ hp,?_,upd_same,⟨nf6,no6,.inr hp⟩,(ak.cC kr _ _ r6).append (ak.cons (Rep.cC kr _ _ ry) ak.nil),e6⟩
              rw [← hw]
              exact (s6.wipe vs).uR nf6 no6 p6 trivial
            · cases e6
  · have e:i=ds.length:=by omega
    subst e
    refine .inl ⟨stop _ (Nat.le_refl _),?_⟩
    rw [List.drop_length] at hrun
    cases hrun
    exact q w1 us g1 s1 e1 l1 r1
theorem yQ {wi:TI} {g:TG} {tt:TT} {te:TE} {mi:M (List D)} {a:GA} {mt:M Bool} {me:M D} {vs:List Nat} (hi:aR X W (fun _ _ w' ds J=>Goes X.K w' ds J) wi mi)
  (hg:∀ σ w sm d v,SR X.K w sm σ→Rep X.K w d v→o8 X vs (fun Q=>g v σ w.H Q) σ w (a d sm)) (ht:aR X W0 (fun _ _ _ a b=>a=b) tt mt) (he:aR X W0 (RV X.K) te me) :
  aR X W (RT X.K) (tLc wi g tt te vs) (yN mi a mt me vs):=by
 refine hi.bnd (k:=fun J σ H1 Q=>∀ D,H1 D=none→∃ W' : Nat→Nat→Hp→Prop,(∃ m,W' 0 m (upd H1 D (.lst [])))∧∀ i m H,W' i m H →
  (J.stop i H∧Q (V.ref D) H)∨(J.go i H∧∃ Nx:Hp→Prop,(∀ H',Nx H'→∃ m',m' < m∧W' (i+1) m' H')∧∀ x H',J.yld i H x H'→g x (wipe σ vs) H' fun σ2 H2=>wipe σ2 vs=wipe σ vs∧tt σ2 H2 fun b H3 =>
   if b=true then te σ2 H3 fun y H4=>∃ acc,H4 D=some (.lst acc)∧acc.length < sizeLine∧Nx (upd H4 D (.lst (acc++[y]))) else Nx H3)) fun σ w w1 sm1 ds J ok g1 s1 hJ=>?_
 cases hr:ju a mt me vs ds [] (bT sm1 vs) with
 | fail=>exact trivial
 | exc c fs sm2=>exact trivial
 | ok acc sm2 =>
  intro Q q p hp
  exact yP hg ht he hJ s1.ok (s1.wipe vs) hp hr fun w' us g2 s2 e2 l2 r2=>q (.ref p) w' g2 (s1.bW g2 s2) ⟨p,us,rfl,e2,l2.back g1 s1.ok,r2⟩
theorem uU {ks:List Nat} {i:Nat} {y:Str} {py:Pos} {elt tg iter:Expr} {ifs:List Expr} {scope:Scope} {own:List (Str × Nat)} {pos spos:Pos} {mi:M (List D)} {a:GA} {mt:M Bool} {me:M D} {us:List Nat} (hc:X.calm=true) (hN:X.N.Nodup) (hy:X.N[i]? = some y) (hyl:∀ j,(X.env j).scope.names.lookup y=some .local)
  (hsw:∀ j,swapsWith (.ListComp elt [⟨tg,iter,ifs,0⟩] scope pos) (some (.Name y py)) spos.line (X.env j)=pure true) (hi:yL X tg iter mi) (ok:∀ j,BlkOk X.N (X.env j).scope scope own)
  (hg:sW (X.blk scope) us tg a) (ht:yO (X.blk scope) ifs mt) (he:PM (X.blk scope) elt me) (hu:us=own.map (·.2)) (hk:i∉ks:=by decide) (hs:∀ j x,foldedSetIterable iter (X.env j) x=pure x:=by intro _ _; rfl) :
  jo X ks (.Assign [.Name y py] (.ListComp elt [⟨tg,iter,ifs,0⟩] scope pos) spos) (bh i (yN mi a mt me us)):=by
 subst hu
 obtain ⟨ti,pi,si⟩:=hi.ex
 obtain ⟨g,pg,sg⟩:=hg.ex
 obtain ⟨tt,pt,st⟩:=ht.ex
 obtain ⟨te,pe,se⟩:=he.ex
 refine ⟨fun W=>tAsg (tLc (ti W) g (tt W0) (te W0) (own.map (·.2))) (gName i),fun j pn xe W tk pw=>?_,fun W=>sU i hk (yQ (si W) sg (st W0) (se W0))⟩
 exact ps_setLc (X:=X.at j pn xe) hc hN hy (hyl j) (hsw j) (pi j pn xe W tk pw) (ok j) (fun s H C cl fp=>pg (j,s,H,C,cl,fp) [] _) (fun s H C cl fp=>pt (j,s,H,C,cl,fp) [] _ W0 takes0 PassesOwn.never) (fun s H C cl fp=>pe (j,s,H,C,cl,fp) [] _ W0 takes0 PassesOwn.never) (hs j)
end
end Mir
namespace Mir
open PySem PySem.Spec PyProof.Rows L2
structure Gu (X:Cf) (e:Option Expr) (m:M (Option Int)):Prop where
 ex:∃ t:WX→TO,(∀ j pn xe W,Takes (X.at j pn xe) W→iY X j xe→PO (X.at j pn xe) e (t W))∧∀ W,aR X W (fun _ _ _ a b=>a=b) (t W) m
def eU:D→Bool
 | .non | .bl _ | .int _ | .str _=>true
 | _=>false
def inD (x:D) (xs:List D):Bool:=xs.any fun y=>D.eqv y x
def D.isIn (x:D):D→Option Bool
 | .lst xs=>if eU x && xs.all eU then some (inD x xs) else none
 | .tup xs=>if eU x && xs.all eU then some (inD x xs) else none
 | .str z=>match x with
  | .str y=>some (!(Builtin.Str.occurrences z y 0 z.length 1).isEmpty)
  | _=>none
 | .dic ks ds=>if ks.length=ds.length then (toKey x).map fun k=>(look ks ds k).isSome else none
 | _=>none
def D.yR (x y:D):Option D:=(D.isIn x y).map .bl
def rInD:R2:=fun x y H Q=>∃ a o,y = .ref a∧DGet H a x o∧Q (.bl o.isSome) H
theorem op_inD {X:Cx} (hu:X.A.units+1 < cLine):OpR X (compareOp .In) rInD:=by
 intro pins s σ H x y v u Q I rx ry h
 obtain ⟨a,o,rfl,g,q⟩:=h
 obtain rfl:u=Value.ref a:=ry
 exact d_in hu I g rx fun s3 I3=>⟨.bl o.isSome,H,I3,rfl,q⟩
def yS (K:PySem.W.Frag):R2:=fun x y H Q=>rIn K false x y H Q∨(∃ i j,x = .str i∧y = .str j∧Q (.bl (!(Builtin.Str.occurrences j i 0 j.length 1).isEmpty)) H)∨rInD x y H Q
theorem yU {X:Cx} (hu:X.A.units+1 < cLine):OpR X (compareOp .In) (yS X.K):=OpR.or op_in_seq (OpR.or op_in_str (op_inD hu))
theorem mD {K:PySem.W.Frag} {w:Wd} {d:D} {v:V} (h:eU d=true) (r:aP K w d v):flatV v=true:=by
 cases d <;> first | (simp [eU] at h; done) | skip
 ·cases iK r; rfl
 ·cases gQ r; rfl
 ·cases aN r; rfl
 ·cases bY r; rfl
theorem xG {K:PySem.W.Frag} {w:Wd} {d e:D} {v u:V} (h:eU d=true) (h2:eU e=true) (r:aP K w d v) (r2:aP K w e u):eqV v u=D.eqv d e:=by
 cases d <;> cases e <;> first
  | (simp [eU] at h; done)
  | (simp [eU] at h2; done)
  | ((first | cases aN r | cases bY r | cases gQ r | cases iK r) <;> (first | cases aN r2 | cases bY r2 | cases gQ r2 | cases iK r2) <;> rfl)
theorem qH {K:PySem.W.Frag} {w:Wd} {x:D} {vx:V} (hx:eU x=true) (rx:aP K w x vx):∀ {xs:List D} {vs:List V},ak K w xs vs→xs.all eU=true→vs.all flatV=true∧inV vx vs=inD x xs
 | [],vs,r,h=>by unfold ak at r; subst r; exact ⟨rfl,rfl⟩
 | d :: ds,vs,r,h=>by
  unfold ak at r
  obtain ⟨v,q,rfl,r1,r2⟩:=r
  rw [List.all_cons,Bool.and_eq_true] at h
  obtain ⟨h1,h2⟩:=qH hx rx r2 h.2
  refine ⟨by rw [List.all_cons,mD h.1 (Rep.b r1),h1]; rfl,?_⟩
  unfold inV inD at h2 ⊢
  rw [List.any_cons,List.any_cons,h2,xG h.1 hx (Rep.b r1) rx]
theorem look_none {K:PySem.W.Frag} {w:Wd} {k:Key}:∀ {ks:List Key} {ds:List D} {vs:List V},ak K w ds vs→ks.length=ds.length→(valV (ks.zip vs) k).isSome=(look ks ds k).isSome
 | [],ds,vs,r,h=>by simp [look,valV]
 | k' :: ks,[],vs,r,h=>by simp at h
 | k' :: ks,d' :: ds,vs,r,h=>by
  unfold ak at r
  obtain ⟨v,q,rfl,r1,r2⟩:=r
  by_cases e:k' = k
  ·rw [List.zip_cons_cons,valV_pos e]
   simp [look,e]
  ·rw [List.zip_cons_cons,valV_neg e,look_none r2 (by simpa using h)]
   simp [look,e]
theorem vQ {K:PySem.W.Frag} {w:Wd} {x y:D} {vx vy:V} {b:Bool} (h:D.isIn x y=some b) (rx:aP K w x vx) (ry:aP K w y vy) :
  (∃ p xs,vy = .ref p∧(SqL K w.H p xs∨SqT K w.H p xs)∧flatV vx=true∧xs.all flatV=true∧inV vx xs=b)∨(∃ i j,vx = .str i∧vy = .str j∧(!(Builtin.Str.occurrences j i 0 j.length 1).isEmpty)=b)∨(∃ a o,vy = .ref a∧DGet w.H a vx o∧o.isSome=b):=by
 unfold D.isIn at h
 split at h
 ·split at h
  ·rename_i hf
   cases h
   obtain ⟨f1,f2⟩:=Bool.and_eq_true_iff.mp hf
   obtain ⟨a,vs,rfl,h1,r1⟩:=iQ ry
   obtain ⟨h2,h3⟩:=qH f1 rx r1 f2
   exact .inl ⟨a,vs,rfl,.inl (SqL.of h1),mD f1 rx,h2,h3⟩
  ·cases h
 ·split at h
  ·rename_i hf
   cases h
   obtain ⟨f1,f2⟩:=Bool.and_eq_true_iff.mp hf
   obtain ⟨a,vs,rfl,h1,r1⟩:=fY ry
   obtain ⟨h2,h3⟩:=qH f1 rx r1 f2
   exact .inl ⟨a,vs,rfl,.inr h1,mD f1 rx,h2,h3⟩
  ·cases h
 ·split at h
  ·cases h
   cases bY rx
   cases bY ry
   exact .inr (.inl ⟨_,_,rfl,rfl,rfl⟩)
  ·cases h
 ·rename_i ks ds
  split at h
  ·rename_i hl
   obtain ⟨a,vs,rfl,h1,_,r1⟩:=ry
   cases hk:toKey x with
   | none=>rw [hk] at h; cases h
   | some k =>
    rw [hk] at h
    cases h
    cases nY hk rx
    exact .inr (.inr ⟨a,_,rfl,DGet.r h1,look_none r1 hl⟩)
  ·cases h
 ·cases h
theorem yV (K:PySem.W.Frag):fj K (yS K) D.yR:=by
 intro w x y vx vy z ok rx ry h Q q
 unfold D.yR at h
 cases hb:D.isIn x y with
 | none=>rw [hb] at h; cases h
 | some b =>
  rw [hb] at h
  cases h
  have fin:=q (.bl b) w (Al.refl ok) gR
  rcases vQ hb rx ry with ⟨p,xs,rfl,h1,h2,h3,h4⟩ | ⟨i,j,rfl,rfl,h4⟩ | ⟨a,o,rfl,g,h4⟩
  ·refine .inl ⟨p,xs,rfl,h1,h2,h3,?_⟩
   show Q (.bl (inV vx xs)) w.H
   rw [h4]; exact fin
  ·exact .inr (.inl ⟨i,j,rfl,rfl,by rw [h4]; exact fin⟩)
  ·exact .inr (.inr ⟨a,o,rfl,g,by rw [h4]; exact fin⟩)
structure Df (P:Program) (w:World) (K:PySem.W.Frag) (mg:Str→Option Value) (base:Heap) (k:Nat) (x:Str) (ps:List Str) (fm:Fn) (sh:FuncData→Prop):Prop where
 ex:∃ f fd,FnOk P w K mg base (L2.CX P w) k f fd ps (jZ K mg fm)∧mg x=some (.ref f)∧PySem.W.keepIn K (.ref f)=true∧sh fd
section
variable {X:Cf} {k n:Nat} {ps ks:List Str} {fm:Fn} {x:Str} {sh:FuncData→Prop} {p pos:Pos} {e:Expr} {es:List Expr} {kws:List Keyword} {gA:List Ar→List Ar→List Ar} {gV:List V→List V→List V} {ma mk:M (List Ar)}
theorem cJ (D:Df X.X.prog X.X.w X.X.K X.X.mg X.X.base k x ps fm sh) (hr:Room k X.A) (hg:∀ j,(X.env j).kindOf x=some .globalImplicit) (hb:∀ fd,sh fd→KBd X.K fd ps n [] gA gV) (ha:qD X (e :: es) ma)
  (hdb:(x == ("__debug__" : Str))=false:=by decide) (he:∀ j,starEach (e :: es) (X.env j)=(false,eval e (X.env j)) :: starEach es (X.env j):=by intro _; rfl) (hpl:∀ j,(backTo pos (starEach es (X.env j))).any (·.1)=false:=by intro _; rfl) :
  PF X (.Call (.Name x p) (e :: es) [] pos) (cX n 0 gA fm ma bM):=by
 obtain ⟨f,fd,F,hm,hk,hs⟩:=D.ex
 exact xq F hr hg hm hk (hb fd hs) ha hdb he hpl
end
theorem bU {K:PySem.W.Frag} {x qual:Str} {st:Stmt} {f:Addr} {oc:Value} {od an:Option Addr} {osl:Array (Option Value)} {kV doc pm cdv ct:Value} (l:K.lookup f=some ⟨oc,od,.func (PySem.W.fnOf x qual (defArgs st) (defBody st) (defScope st) .none kV doc pm an cdv ct),osl⟩)
  (c:PySem.W.codeIn K cdv qual=true) (k:PySem.W.keepIn K (.ref f)=true) {kws:List (Str × V)} (hk:KwdV K kV kws):FunD K x qual (defArgs st) (defBody st) (defScope st) [] kws f (PySem.W.fnOf x qual (defArgs st) (defBody st) (defScope st) .none kV doc pm an cdv ct) :=
 ⟨⟨oc,od,.none,kV,doc,pm,an,cdv,ct,osl,rfl,l,c,.inl ⟨rfl,rfl⟩,hk⟩,k⟩
def spLaw (n:Nat) (K:PySem.W.Frag):Sp:=fun vs H Q _=>∃ (a:Addr) (ns:List Int),vs=[.ref a]∧SqL K H a (ns.map V.int)∧ns.length≤n∧(∀ z∈ns,Builtin.Int.intBits z≤1048576)∧∀ H',Q (.bl true) H'
theorem noX {P:Program} {w:World} {H:Hp} {s:Shared} {e:Value} {s' : Shared} (h:L2.CX P w [] H s (fun _ _ _=>False) e s'):False:=by
 obtain ⟨_,_,_,_,_,_,_,_,_,_,_,_,z⟩:=h
 exact z.elim
structure Gc (K:PySem.W.Frag) (mg:Str→Option Value) (x:Str) (d:D):Prop where
 ex:∃ v u,mg x=some u∧RelV v u∧∀ w:Wd,Rep K w d v
def Cy (K:PySem.W.Frag) (d:D) (u:Value):Prop:=∃ v,RelV v u∧∀ w:Wd,Rep K w d v
structure Gg (X:Cf) (es:List Expr) (Ts:List String):Prop where
 ok:∀ j pn xe,∃ t,PA (X.at j pn xe) es t∧∀ σ H Q,Q (Ts.map V.ty) H→t σ H Q
def Cg:List (M D)→Str→M D
 | [],acc=>ret (.str acc)
 | m :: ms,acc=>bnd m fun d=>match d with
  | .str y=>if fits (acc++y).length then Cg ms (acc++y) else stuck
  | _=>stuck
structure Gv (X:Cf) (es:List Expr) (ms:List (M D)):Prop where
 ex:∃ ts:WX→List TE,(∀ j pn xe W,Takes (X.at j pn xe) W→iY X j xe→PJ (X.at j pn xe) es (ts W))∧∀ W acc,aR X W (RV X.K) (fun σ H Q=>tJs (ts W) acc σ H fun out H1=>Q (.str out) H1) (Cg ms acc)

end Mir
namespace Mir
open PySem PySem.Spec PyProof.Rows L2 PySem.Calls PySem.W

end Mir
namespace Mir
open PySem PySem.Spec PyProof.Rows L2


def sle (a b:Str):Bool:=!ltCps b.cps.toList a.cps.toList
inductive wL (K:PySem.W.Frag) (P:Params):List (Str × D)→List DictEntry→Prop
 | nil:wL K P [] []
 | cons {x:Str} {t:Tok} {d:D} {u:Value} {kvs:List (Str × D)} {es:List DictEntry}:Cy K d u→wL K P kvs es→wL K P ((x,d) :: kvs) (⟨PyData.keyHash P x,.str x t,u⟩ :: es)
structure Kd (K:PySem.W.Frag) (mg:Str→Option Value) (w:World) (x:Str) (kvs:List (Str × D)):Prop where
 ex:∃ d es n,mg x=some (.ref d)∧K.lookup d=some ⟨.type "dict",none,.dict es n,#[]⟩∧(d == sysModules)=false∧wL K w.params kvs es.toList


end Mir
namespace Mir
end Mir
namespace Mir
open PySem PySem.Spec PyProof.Rows L2

theorem qI {X:Cx} {C:Addr} {bmB:List Value} {B newId initId:String} {x:Str} {p pos:Pos} (F:ExcBaseFacts B newId initId bmB) (q:PySem.W.excIn X.K C bmB newId=true) (gC:X.mg x=some (.ref C))
  (kC:PySem.W.keepIn X.K (.ref C)=true) (r:Raises X (.ref C)) (hg:Gl X x) (hdb:(x == ("__debug__" : Str))=false:=by decide) :
  PMk X (.Call (.Name x p) [] [] pos) (fun σ H Q=>Q (.ref C) none H):=by
 intro pins s σ H Q I h
 refine wpAny_Call_Name_kw (ld_glob I hg gC ?_ hdb)
 refine PySem.W.callWith_K0 I.kIn kC ?_
 obtain ⟨bm,N,nm,qn,bs,hdct,sn,sub,ab,col,dd,k0,k1,k2,k3,k5,mN,hC,hN,hni,T⟩:=exc_obj I.kIn q
 refine wpAny_call_exc_subT F T hC hN hni (fun h' e hm=>?_) (Nat.zero_le _)
 exact mk_of I hm r h (I.hok.gone hm.new)
structure kY (K:PySem.W.Frag) (mg:Str→Option Value) (c:Str):Prop where
 ex:∃ (C:Addr) (bmB:List Value) (B newId initId:String),PySem.W.nsIn K mainGlobals c=some (some (.ref C))∧mg c=some (.ref C)∧ExcBaseFacts B newId initId bmB∧PySem.W.excIn K C bmB newId=true∧PySem.W.keepIn K (.ref C)=true ∧
  PySem.W.subIn K (.ref C) (.type "BaseException")=some true∧PySem.W.typeIn K (.ref C)=some (.type "type")
def tE (c:Str):M Fl:=fun sm=>.exc c [] sm
section
variable {X:Cf} {ks:List Nat}
theorem uV {c:Str} {p pos pos' : Pos} (h:kY X.K X.mg c) (hc:X.calm=true) (hg:∀ j,(X.env j).kindOf c=some .globalImplicit) (hdb:(c == ("__debug__" : Str))=false:=by decide):jo X ks (.Raise (some (.Call (.Name c p) [] [] pos)) none pos') (tE c):=by
 obtain ⟨C,bmB,B,newId,initId,h1,h2,F,h3,h4,h5,h6⟩:=h.ex
 refine ⟨fun W=>fun _ σ H=>W (.ref C) none σ H,fun j pn xe W tk pw=>ps_raise (X:=X.at j pn xe) hc tk (qI (X:=X.at j pn xe) F h3 h2 h4 (raises_own h5 h6) (hg j) hdb),fun W σ w sm hs=>?_⟩
 exact fun e D=>e σ w (.ref C) none (Gr.refl w) hs KS.refl ⟨⟨C,h1,rfl⟩,.inl ⟨rfl,rfl⟩⟩
end
def jE (K:PySem.W.Frag) (f:Str):L2.Sp:=fun vs H Q E=>∃ (a C:Addr) (y:V),vs=[.ref a,y]∧OexC K C∧PySem.W.findIn K (.ref C) f=some none∧H a=some (exo a C none)∧∀ dx,H dx=none→dx≠a→Q .non (upd (upd H dx (exd dx [(f,y)])) a (exo a C (some dx)))
theorem lE {P:Program} {w:World} {K:PySem.W.Frag} {mg:Str→Option Value} {base:Heap} {x qual:Str} {params:Arguments} {scope:Scope} {fI:Addr} {fd:FuncData} {sf pr f:Str} {p1 p2 p3 p4:Pos}
  (F:FunD K x qual params [.Assign [.Attribute (.Name sf p1) f p2] (.Name pr p3) p4] scope [] [] fI fd) (S:FnScope [sf,pr] [sf,pr] scope) (v1:Vis scope sf) (v2:Vis scope pr)
  (d1:(sf == ("__debug__" : Str))=false) (d2:(pr == ("__debug__" : Str))=false) (d3:(sf == ("__classdict__" : Str))=false) (d4:(pr == ("__classdict__" : Str))=false) :
  FnOk P w K mg base (L2.CX P w) 1 fI fd [sf,pr] (jE K f):=by
 refine F.ok (k:=0) S (fun vs H Q E h=>?_) (fun cdv A outer s H vs Q E hr h=>?_)
 ·obtain ⟨a,C,y,rfl,_⟩:=h; rfl
 ·obtain ⟨a,C,y,rfl,T,hf,ha,q⟩:=h
  refine ⟨_,pss_one (ps_ost (pe_var (i:=0) rfl v1 d1 d3) (pe_var (i:=1) rfl v2 d2 d4)),?_⟩
  refine ⟨y,rfl,.ref a,rfl,a,C,rfl,T,hf,.inl ⟨ha,fun dx n ne=>?_⟩⟩
  exact q dx n ne
structure kZ (P:Program) (w:World) (K:PySem.W.Frag) (mg:Str→Option Value) (base:Heap) (c f:Str):Prop where
 ex:∃ (C fI:Addr) (fd:FuncData) (ps:List Str),PySem.W.nsIn K mainGlobals c=some (some (.ref C))∧mg c=some (.ref C)∧OexC K C∧PySem.W.findIn K (.ref C) "__init__" = some (some (.ref fI))∧PySem.W.typeIn K (.ref fI)=some (.type "function") ∧
  PySem.W.findIn K (.ref C) f=some none∧FnOk P w K mg base (L2.CX P w) 1 fI fd ps (jE K f)∧Binds K fd ps []
def lF (c f:Str) (m:M D):M Fl:=bnd m fun d sm=>.exc c [(f,d)] sm
section
variable {X:Cf} {ks:List Nat}
theorem uW {k:Nat} {c f:Str} {e:Expr} {m:M D} {p pos pos' : Pos} (h:kZ X.X.prog X.X.w X.K X.mg X.X.base c f) (hc:X.calm=true) (hr:Room k X.A) (hk:2≤k) (hg:∀ j,(X.env j).kindOf c=some .globalImplicit) (he:PM X e m) (hdb:(c == ("__debug__" : Str))=false:=by decide)
  (hs:∀ j,starEach [e] (X.env j)=(false,eval e (X.env j)) :: starEach [] (X.env j):=by intro _; rfl):jo X ks (.Raise (some (.Call (.Name c p) [e] [] pos)) none pos') (lF c f m):=by
 obtain ⟨C,fI,fd,ps,h1,h2,T,h3,h4,h5,F1,hb⟩:=h.ex
 obtain ⟨t,q,s⟩:=he.ex
 refine ⟨fun W=>fun _ σ H=>tMkO C (jE X.K f) [] (tCons (t W) tNil) σ H fun cls d H'=>W cls d σ H',fun j pn xe W tk pw=>ps_raise (X:=X.at j pn xe) hc tk (pmk_oex (X:=X.at j pn xe) T h3 h4 F1 (hr.mono hk) hb .nil (passes_call tk fun _ _ _ _ z=>z.elim) (hg j) h2 (pa_cons (q j pn xe W tk pw) pa_nil (hs j)) hdb (hs j)),fun W σ w sm hs=>?_⟩
 refine (s W σ w sm hs).st (kb:=fun x H D=>([x]:List V).length≤1000∧∀ a,H a=none→jE X.K f (.ref a :: ([x]++[])) (upd H a (exo a C none)) (fun v H2=>v = .non∧∃ (d:Addr) (fs:List (Str × V)),H2 a=some (exo a C (some d))∧H2 d=some (exd d fs)∧H d=none∧W (.ref C) (some d) σ (upd (del H2 a) d (.xd fs))) (fun _ _ _=>False)) fun w1 sm1 d v g1 s1 r1=>?_
 intro e D
 refine ⟨by simp,fun a na=>⟨a,C,v,rfl,T,h5,upd_same,fun dx ndx ne=>⟨rfl,dx,[(f,v)],upd_same,?_,?_,?_⟩⟩⟩
 ·rw [upd_ne ne]; exact upd_same
 ·rw [upd_ne ne] at ndx; exact ndx
 ·have ndx' : w1.H dx=none:=by rw [upd_ne ne] at ndx; exact ndx
  have eH:upd (del (upd (upd (upd w1.H a (exo a C none)) dx (exd dx [(f,v)])) a (exo a C (some dx))) a) dx (.xd [(f,v)])=upd w1.H dx (.xd [(f,v)]):=by
   funext b
   by_cases hb:b=dx
   ·rw [hb,upd_same,upd_same]
   ·rw [upd_ne hb,upd_ne hb]
    by_cases hba:b=a
    ·rw [hba,del_same,na]
    ·rw [del_ne hba,upd_ne hba,upd_ne hb,upd_ne hba]
  rw [eH]
  have al:=Al.frozen s1.ok ndx' (.xd [(f,v)])
  refine e σ _ (.ref C) (some dx) al.gr (s1.al al) KS.refl ⟨⟨C,h1,rfl⟩,.inr ⟨by simp,dx,[v],rfl,upd_same,.inr rfl,ak.cons (Rep.mono al.keep s1.ok _ _ r1) ak.nil⟩⟩
end
def eZ (a:Addr) (cls:Value) (d:Option Addr):HO:=.ext fun h=>∃ o vs,h.get? a=some o∧Zc cls d o∧o.data = .fields vs
theorem nZ {P:Program} {w:World} {H:Hp} {h:Heap} {a:Addr} {cls:Value} {d:Option Addr} {o:Obj} {vs:Array Value} (e:h.get? a=some o) (z:Zc cls d o) (hd:o.data = .fields vs):ObjOk P w H h a (eZ a cls d) :=
 ⟨⟨o,vs,e,z,hd⟩,⟨o,e⟩,fun h1 h2 ⟨o',vs',e',z',hd'⟩ k=>⟨o',vs',k o' e',z',hd'⟩⟩
theorem pq {X:Cx} {pins:List (Addr × Obj)} {σ:L2.St} {H:Hp} {s:Shared} (I:Inv X pins σ H s) {a:Addr} {o:HO} (na:H a=none) (oo:ObjOk X.prog X.w (upd H a o) s.heap a o) (nL:a≠X.env.locals) (n0:X.s_0.heap.get? a=none)
  (np:∀ p∈X.pn++pins,p.1≠a) (nc:∀ x c,X.env.cells.lookup x=some c→c≠a):Inv X pins σ (upd H a o) s:=by
 have ne:∀ {b:Addr} {u:HO},H b=some u→b≠a:=fun {b u} h e=>by rw [e,na] at h; cases h
 refine ⟨I.ok,I.os,I.bare,⟨I.base.keep,I.base.slot,fun b ob e n hx=>?_,I.base.there,fun b xs h=>?_,fun b ob u h=>?_,fun b ps h=>?_⟩,I.loc,I.cell,?_,fun x c hc=>?_,fun p hp=>?_,fun b u hb=>?_,I.len⟩
 ·rw [upd_ne (fun z=>by rw [z,n0] at e; cases e)]; exact I.base.free b ob e n hx
 ·have:=I.base.tups b xs h; rw [upd_ne (ne this)]; exact this
 ·have:=I.base.frzs b ob u h; rw [upd_ne (ne this)]; exact this
 ·obtain ⟨more,this⟩:=I.base.tbls b ps h; exact ⟨more,by rw [upd_ne (ne this)]; exact this⟩
 ·rw [upd_ne (Ne.symm nL)]; exact I.free
 ·rw [upd_ne (nc x c hc)]; exact I.freeC x c hc
 ·obtain ⟨h1,h2,h3⟩:=I.pin p hp; exact ⟨h1,by rw [upd_ne (np p hp)]; exact h2,h3⟩
 ·by_cases e:b=a
  ·subst e; rw [upd_same] at hb; cases hb; exact oo
  ·rw [upd_ne e] at hb
   exact (I.hok b u hb).stay (fun c v _ q=>q) (fun c q=>by rw [upd_ne (ne q)]; exact q) (fun c xs q=>by rw [upd_ne (ne q)]; exact q)
theorem pA {X:Cx} {pins:List (Addr × Obj)} {σ:L2.St} {H:Hp} {s:Shared} (I:Inv X pins σ H s) (a:Addr):Inv (X.suite a (X.pn++pins)) [] σ H s :=
 ⟨I.ok.suite _ _,I.os,I.bare,I.base,I.loc,I.cell,I.free,I.freeC,fun p hp=>I.pin p (by rw [List.append_nil] at hp; exact hp),I.hok,I.len⟩
theorem d8 {X:Cx} {pins pn' : List (Addr × Obj)} {σ:L2.St} {H:Hp} {s:Shared} {a:Addr} (I:Inv (X.suite a (X.pn++pins)) pn' σ H s) (ok:X.Ok):Inv X pins σ H s :=
 ⟨ok,I.os,I.bare,I.base,I.loc,I.cell,I.free,I.freeC,fun p hp=>I.pin p (List.mem_append_left _ hp),I.hok,I.len⟩
structure Cl where
 c:Value
 i:Option Nat
 ts:Addr→TS
def qJ (D:Ends):Option Nat→Ends
 | none=>D
 | some i=>{ nx:=fun σ' H'=>D.nx (σ'.set i none) H',rt:=D.rt,bk:=fun σ' H'=>D.bk (σ'.set i none) H',ct:=fun σ' H'=>D.ct (σ'.set i none) H' }
def uf (σ:L2.St) (a:Addr):Option Nat→L2.St
 | none=>σ
 | some i=>σ.set i (some (.ref a))
def jN (K:PySem.W.Frag) (Wout:WX) (D:Ends):List Cl→WX
 | []=>Wout
 | l :: r=>fun cls d σ H=>∃ b,PySem.W.exmOne K cls l.c=some b∧(b=true→∀ a,H a=none→l.ts a (qJ D l.i) (uf σ a l.i) (upd H a (eZ a cls d)))∧(b=false→jN K Wout D r cls d σ H)
inductive jw (X:Cx):List ExceptHandler→List Cl→Prop
  | nil:jw X [] []
  | none {x : Str} {c : Value} {ts : Addr → TS} {b₀ : Stmt} {suite : List Stmt} {np pos' : Pos} {hds : List ExceptHandler} {l : List Cl} (hc : Names X x c)
      (hsu:∀ (a:Addr) (pn:List (Addr × Obj)),PSs (X.suite a pn) (b₀ :: suite) (ts a)) (r:jw X hds l):jw X (.ExceptHandler (some (.Name x np)) none (b₀ :: suite) pos' :: hds) (⟨c,.none,ts⟩ :: l)
  | as {x n : Str} {i : Nat} {c : Value} {ts : Addr → TS} {b₀ : Stmt} {suite : List Stmt} {np pos' : Pos} {hds : List ExceptHandler} {l : List Cl} (hc : Names X x c) (hi : X.N[i]? = some n) (hln : X.env.kindOf n = some .local)
      (hsu:∀ (a:Addr) (pn:List (Addr × Obj)),PSs (X.suite a pn) (b₀ :: suite) (ts a)) (r:jw X hds l):jw X (.ExceptHandler (some (.Name x np)) (some n) (b₀ :: suite) pos' :: hds) (⟨c,some i,ts⟩ :: l)
section
variable {X:Cx} {body:List Stmt} {h₀:ExceptHandler} {hds:List ExceptHandler} {l:List Cl} {pos:Pos} {tb:WX→TS} {Wout:WX}
theorem ug (hs:X.stack=X.env :: X.outer) (hf:X.env.frame=some X.env.locals) (hN:X.N.Nodup) (hex:X.ex=[]) (tk:Takes X Wout)
    (hb:∀ (W:WX) (pn:List (Addr × Obj)) (xe:Value→Shared→Prop),Takes (X.tr pn xe) W→PassesOwn (model X.prog X.w) X.A X.env xe→PSs (X.tr pn xe) body (tb W))
    (hh:jw X (h₀ :: hds) l):PS X (.Try body (h₀ :: hds) [] [] pos) (fun D σ H=>tb (jN X.K Wout D l) D σ H):=by
  refine ⟨fun pins s σ H D I h=>?_⟩
  have ok:=I.ok
  have hfr:X.A.frames=some (X.env :: X.outer):=by rw [ok.frames,hs]
  refine wpAny_Try_except ?_
  refine wpAny_mono ((hb (jN X.K Wout D l) (X.pn++pins) (fun e s₁=>wpAny (model X.prog X.w) X.A (noteFrame e X.env) (fun _ s₂=>wpAny (model X.prog X.w) X.A (setFlight e none) (fun _ s₃ =>
    wpAny (model X.prog X.w) X.A (handleBy e X.env (h₀ :: hds)) (SP X pins D) X.xe s₃) X.xe s₂) X.xe s₁) (fun u s' xx=>?_) PassesOwn.looking).run [] s σ H D (I.toTry _) h) (fun f s1 hsp=>?_) (fun e s1 he=>he)
  · -- the catch
    obtain ⟨a,B,sI,pins',σ',H',cls,d,rfl,J',nb,up,sky,na,os,ag,w⟩:=xx
    have J:Inv X pins σ' H' sI:=J'.ofTry ok
    have sky' : Sky B (X.env :: X.outer) a (Zc cls d) X.env.locals s'.heap:=by rw [← hs]; exact sky
    show wpAny (model X.prog X.w) X.A (noteFrame (.ref a) X.env) _ _ _
    refine Sky.land Zc.steady hfr hf sky' fun h3 fl3 up3=>?_
    have J3:Inv X pins σ' H' { s' with heap:=h3 }:=J.landed nb fl3.1 (up.trans up3) os ag
    obtain ⟨oe3,vs3,he3,hz3,hd3⟩:=fl3.there
    have notFr:∀ {h:Heap} {o:Obj} {vs:Array Value},h.FunFrames B (X.env :: X.outer)→h.get? a=some o→o.data = .fields vs→a∉frs (X.env :: X.outer):=fun {h o vs} ff e dd hm=>by
      obtain ⟨_,o',e',hnf⟩:=ff.mem hm
      rw [e] at e'; cases e'
      exact hnf _ dd
    have nfr:=notFr fl3.2.2.1 he3 hd3
    have nL:a≠X.env.locals:=fun z=>nfr (List.mem_filterMap.mpr ⟨X.env,List.mem_cons_self,by rw [hf,z]⟩)
    have nF:a∉X.fs:=fun hm=>by
      obtain ⟨e,he,q⟩:=List.mem_filterMap.mp hm
      exact nfr (List.mem_filterMap.mpr ⟨e,List.mem_cons_of_mem _ he,q⟩)
    have nB:B.get? a=none:=fl3.2.1
    have old:∀ b o,sI.heap.get? b=some o→b≠a:=fun b o e z=>by
      subst z
      have:=nb b o e (by rw [hs]; exact nfr)
      rw [nB] at this; cases this
    have n0:X.s_0.heap.get? a=none:=by
      cases q:X.s_0.heap.get? a with
      | none=>rfl
      | some o =>
        obtain ⟨o',e⟩:=J.base.there a o q (by rw [hex]; simp)
        exact absurd rfl (old a o' e)
    have np:∀ p∈X.pn++pins,p.1≠a:=fun p hp=>old p.1 p.2 (J.pin p hp).1
    have nc:∀ x c,X.env.cells.lookup x=some c→c≠a:=fun x c hc=>by
      obtain ⟨v,o,e,_⟩:=J.cell x c hc
      exact old c o e
    have S3:=J3.suite he3 hd3 na nL nF
    have go:∀ {hds' : List ExceptHandler} {l' : List Cl},jw X hds' l'→jN X.K Wout D l' cls d σ' H' →
        wpAny (model X.prog X.w) X.A (handleBy (.ref a) X.env hds') (SP X pins D) X.xe { s' with heap:=h3 }:=by
      intro hds' l' hk
      induction hk with
      | nil =>
        intro w
        refine wpAny_handleBy_nil ?_
        obtain ⟨k1,k2,k3,oe,vs,T,oT,ts',he,hz,hd,h1,hr⟩:=id fl3
        unfold PySem.passOn
        refine wpAny_bind (wpAny_field he hd h1 ?_)
        rw [if_neg (show ¬ ((Value.ref T == Value.none)=true) from by simp)]
        have fin:wpAny (model X.prog X.w) X.A (setFlight (.ref a) X.env.frame) (fun _ s4=>wpAny (model X.prog X.w) X.A (throw (.ref a):Sem Flow) (SP X pins D) X.xe s4) X.xe { s' with heap:=h3 }:=by
          rw [hf]
          refine HandSPX.setFlight_upZ fl3 fun h4 hh4 up4=>wpAny_throw (tk _ _ ?_)
          exact ⟨a,B,sI,pins,σ',H',cls,d,rfl,J,nb,(up.trans up3).trans up4,.inr (.inr (by rw [hs]; exact hh4)),na,os,ag,w⟩
        first
          | exact wpAny_bind (wpAny_pure (wpAny_bind fin))
          | exact wpAny_bind fin
      | @none x c ts b₀ suite np' pos' hds2 l2 hc hsu r ih =>
        intro w
        obtain ⟨b,hb1,hyes,hno⟩:=w
        refine wpAny_handleBy_cons (codeAny_handlers_test ?_) (by intro q; cases q)
        have LT:PySem.W.Looks (model X.prog X.w) h3 (typeOf (.ref a)) cls:=fun A Q E s k q=>wpAny_typeOf_ref (k _ _ he3) (by rw [hz3.1]; exact q)
        have LM:=PySem.W.exm_one (M:=model X.prog X.w) (J3.kIn) LT hb1
        have test:∀ {Q:Value→Shared→Prop} {E:Value→Shared→Prop},Q c { s' with heap:=h3 }→wpAny (model X.prog X.w) (X.A.mark (some (.ref a))) (eval (.Name x np') X.env) Q E { s' with heap:=h3 }:=fun {Q E} q=>by
          obtain ⟨hg,hdbg,hm | ⟨hm,hv,hnn⟩⟩:=hc
          · exact ld_glob (X:=X.suite a ((a,oe3) :: (X.pn++pins))) S3 hg hm q hdbg
          · exact ld_blt (X:=X.suite a ((a,oe3) :: (X.pn++pins))) S3 hg hm hv q hnn hdbg
        refine test (LM.here ?_)
        cases b with
        | true =>
          refine codeAny_handlers_suite ?_
          refine HandSPX.lands_againZ fl3 fun h4 fl4 up4=>?_
          have J4:Inv X pins σ' H' { s' with heap:=h4 }:=J.landed nb fl4.1 ((up.trans up3).trans up4) os ag
          obtain ⟨oe4,vs4,he4,hz4,hd4⟩:=fl4.there
          have S4:=pA (pq J4 na (nZ (cls:=cls) (d:=d) he4 hz4 hd4) nL n0 np nc) a
          refine wpAny_mono ((hsu a (X.pn++pins)).run [] _ _ _ _ S4 (hyes rfl a na)) (fun f s6 hsp=>?_) (fun _ _ z=>False.elim z)
          cases f with
          | next =>
            obtain ⟨σ6,H6,S6,q6⟩:=hsp
            exact ⟨_,_,d8 S6 ok,q6⟩
          | brk =>
            obtain ⟨σ6,H6,S6,q6⟩:=hsp
            exact ⟨_,_,d8 S6 ok,q6⟩
          | cont =>
            obtain ⟨σ6,H6,S6,q6⟩:=hsp
            exact ⟨_,_,d8 S6 ok,q6⟩
          | ret u =>
            obtain ⟨v6,σ6,H6,S6,r6,q6⟩:=hsp
            exact ⟨_,_,_,d8 S6 ok,r6,q6⟩
        | false =>
          show wpAny _ X.A (handleBy (.ref a) X.env hds2) _ _ _
          exact ih (hno rfl)
      | @as x n i c ts b₀ suite np' pos' hds2 l2 hc hi hln hsu r ih =>
        intro w
        obtain ⟨b,hb1,hyes,hno⟩:=w
        refine wpAny_handleBy_cons (codeAny_handlers_test ?_) (by intro q; cases q)
        have LT:PySem.W.Looks (model X.prog X.w) h3 (typeOf (.ref a)) cls:=fun A Q E s k q=>wpAny_typeOf_ref (k _ _ he3) (by rw [hz3.1]; exact q)
        have LM:=PySem.W.exm_one (M:=model X.prog X.w) (J3.kIn) LT hb1
        have test:∀ {Q:Value→Shared→Prop} {E:Value→Shared→Prop},Q c { s' with heap:=h3 }→wpAny (model X.prog X.w) (X.A.mark (some (.ref a))) (eval (.Name x np') X.env) Q E { s' with heap:=h3 }:=fun {Q E} q=>by
          obtain ⟨hg,hdbg,hm | ⟨hm,hv,hnn⟩⟩:=hc
          · exact ld_glob (X:=X.suite a ((a,oe3) :: (X.pn++pins))) S3 hg hm q hdbg
          · exact ld_blt (X:=X.suite a ((a,oe3) :: (X.pn++pins))) S3 hg hm hv q hnn hdbg
        refine test (LM.here ?_)
        cases b with
        | true =>
          refine codeAny_handlers_suite_as ?_
          refine HandSPX.lands_againZ fl3 fun h4 fl4 up4=>?_
          have J4:Inv X pins σ' H' { s' with heap:=h4 }:=J.landed nb fl4.1 ((up.trans up3).trans up4) os ag
          obtain ⟨oe4,vs4,he4,hz4,hd4⟩:=fl4.there
          have S4:=pA (pq J4 na (nZ (cls:=cls) (d:=d) he4 hz4 hd4) nL n0 np nc) a
          refine store_ok (X:=X.suite a (X.pn++pins)) (v:=.ref a) S4 hN hi (.inl hln) rfl (fun s5 S5=>?_) (.inr hln)
          refine wpAny_mono ((hsu a (X.pn++pins)).run [] s5 _ _ _ S5 (hyes rfl a na)) (fun f s6 hsp=>?_) (fun _ _ z=>False.elim z)
          have end_:∀ {σ6:L2.St} {H6:Hp} {Q:Shared→Prop},Inv (X.suite a (X.pn++pins)) [] σ6 H6 s6→(∀ s7,Inv X pins (σ6.set i .none) H6 s7→Q s7) →
              wpAny (model X.prog X.w) X.A (do bindName X.env n .none; unbindBehindTheSuite X.env n pos') (fun _ s7=>Q s7) X.xe s6:=fun {σ6 H6 Q} S6 hq=>gone_ok (d8 S6 ok) hN hi hln hq
          cases f with
          | next =>
            obtain ⟨σ6,H6,S6,q6⟩:=hsp
            exact end_ S6 fun s7 J7=>⟨_,_,J7,q6⟩
          | brk =>
            obtain ⟨σ6,H6,S6,q6⟩:=hsp
            exact end_ S6 fun s7 J7=>⟨_,_,J7,q6⟩
          | cont =>
            obtain ⟨σ6,H6,S6,q6⟩:=hsp
            exact end_ S6 fun s7 J7=>⟨_,_,J7,q6⟩
          | ret u =>
            obtain ⟨v6,σ6,H6,S6,r6,q6⟩:=hsp
            exact end_ S6 fun s7 J7=>⟨_,_,_,J7,r6,q6⟩
        | false =>
          show wpAny _ X.A (handleBy (.ref a) X.env hds2) _ _ _
          exact ih (hno rfl)
    exact go hh w
  · cases f with
    | next =>
      obtain ⟨σ',H',J',q⟩:=hsp
      exact wpAny_execs_nil ⟨σ',H',J'.ofTry ok,q⟩
    | brk =>
      obtain ⟨σ',H',J',q⟩:=hsp
      exact ⟨σ',H',J'.ofTry ok,q⟩
    | cont =>
      obtain ⟨σ',H',J',q⟩:=hsp
      exact ⟨σ',H',J'.ofTry ok,q⟩
    | ret u =>
      obtain ⟨v,σ',H',J',r,q⟩:=hsp
      exact ⟨v,σ',H',J'.ofTry ok,r,q⟩
end
structure Hn where
 tab:Str→Option Bool
 i:Option Nat
 m:M Fl
def lg (sm:Sg) (c:Str) (fs:List (Str × D)):Option Nat→Sg
 | none=>sm
 | some i=>sm.set i (some (.val (.exn c (fs.map (·.1)) (fs.map (·.2)))))
def hdel (sm:Sg):Option Nat→Sg
 | none=>sm
 | some i=>bT sm [i]
def cO:List Hn→Str→List (Str × D)→Sg→R Fl
 | [],c,fs,sm=>.exc c fs sm
 | h :: r,c,fs,sm=>match h.tab c with
  | none=>.fail
  | some false=>cO r c fs sm
  | some true=>match h.m (lg sm c fs h.i) with
   | .ok fl sm'=>.ok fl (hdel sm' h.i)
   | _=>.fail
def uh (m:M Fl) (hs:List Hn):M Fl:=fun sm=>match m sm with
 | .ok fl sm'=>.ok fl sm'
 | .exc c fs sm'=>cO hs c fs sm'
 | .fail=>.fail
def Cf.su (X:Cf) (a:Addr):Cf:=⟨{ X.X with A:=X.X.A.mark (some (.ref a)),calm:=false },X.I,X.v⟩
inductive iw (X:Cf) (ks:List Nat):List ExceptHandler→List Hn→Prop
  | nil:iw X ks [] []
  | none {x : Str} {cv : Value} {tab : Str → Option Bool} {m : M Fl} {b₀ : Stmt} {suite : List Stmt} {np pos' : Pos} {hds : List ExceptHandler} {hs : List Hn} (hc : ∀ j pn xe, Names (X.at j pn xe) x cv)
      (ht:∀ cn b,tab cn=some b→∀ C,PySem.W.nsIn X.K mainGlobals cn=some (some (.ref C))→PySem.W.exmOne X.K (.ref C) cv=some b)
      (hm:∀ a,cD (X.su a) ks (b₀ :: suite) m) (r:iw X ks hds hs):iw X ks (.ExceptHandler (some (.Name x np)) none (b₀ :: suite) pos' :: hds) (⟨tab,.none,m⟩ :: hs)
  | as {x n : Str} {i : Nat} {cv : Value} {tab : Str → Option Bool} {m : M Fl} {b₀ : Stmt} {suite : List Stmt} {np pos' : Pos} {hds : List ExceptHandler} {hs : List Hn} (hc : ∀ j pn xe, Names (X.at j pn xe) x cv)
      (hi:X.N[i]? = some n) (hln:∀ j,(X.env j).kindOf n=some .local) (hk:i∉ks)
      (ht:∀ cn b,tab cn=some b→∀ C,PySem.W.nsIn X.K mainGlobals cn=some (some (.ref C))→PySem.W.exmOne X.K (.ref C) cv=some b)
      (hm:∀ a,cD (X.su a) ks (b₀ :: suite) m) (r:iw X ks hds hs):iw X ks (.ExceptHandler (some (.Name x np)) (some n) (b₀ :: suite) pos' :: hds) (⟨tab,some i,m⟩ :: hs)
section
variable {X:Cf} {ks:List Nat}
theorem lG {w:Wd} (ok:w.Ok) {c:Str} {fs:List (Str × D)} {cls:Value} {d:Option Addr} (x:XR X.K X.mg w c fs cls d) {a:Addr} (na:w.H a=none) :
  Rep X.K { w with H:=upd w.H a (eZ a cls d),F:=fun b=>w.F b∨b=a } (.exn c (fs.map (·.1)) (fs.map (·.2))) (.ref a):=by
 have al:=Al.frozen ok na (eZ a cls d)
 obtain ⟨⟨C,hC,rfl⟩,h⟩:=x
 unfold Rep
 rcases h with ⟨rfl,rfl⟩ | ⟨ne,x,vs,rfl,h1,h2,h3⟩
 ·exact ⟨a,C,none,[],rfl,hC,upd_same,.inr rfl,rfl,ak.nil,.inl ⟨rfl,rfl⟩⟩
 ·refine ⟨a,C,some x,vs,rfl,hC,upd_same,.inr rfl,by simp,ak.mono al.keep ok _ _ h3,.inr ⟨by simpa using ne,x,rfl,al.ext _ _ h1,.inl h2⟩⟩
theorem xH {i:Option Nat} (hk:∀ k,i=some k→k∉ks) {σ:L2.St} {a:Addr} {w w1:Wd} {sm:Sg} {D:Ends} {fl:Fl} (g:Gr w w1) (o1:w1.Ok) (e:lW X ks σ w (hdel sm i) D fl):lW X ks (uf σ a i) w1 sm (qJ D i) fl:=by
 cases i with
 | none=>exact e.shift g o1 KS.refl
 | some i =>
  have hi:=hk i rfl
  have k1:∀ {σ'},KS ks (σ.set i (some (.ref a))) σ'→KS ks σ (σ'.set i none):=fun {σ'} k=>((KS.set hi).trans k).trans (KS.set hi)
  cases fl with
  | nx=>exact fun σ' w' g2 s2 k2=>e (σ'.set i none) w' (g.trans o1 g2) (s2.wipe [i]) (k1 k2)
  | bk=>exact fun σ' w' g2 s2 k2=>e (σ'.set i none) w' (g.trans o1 g2) (s2.wipe [i]) (k1 k2)
  | ct=>exact fun σ' w' g2 s2 k2=>e (σ'.set i none) w' (g.trans o1 g2) (s2.wipe [i]) (k1 k2)
  | rt t=>exact fun v σ' w' g2 s2 k2 r2=>e v (σ'.set i none) w' (g.trans o1 g2) (s2.wipe [i]) (k1 k2) (r2.back g o1)
theorem vR {hds:List ExceptHandler} {hs:List Hn} (h:iw X ks hds hs):∃ l,(∀ j pn xe,jw (X.at j pn xe) hds l)∧∀ (Wout:WX) σ w sm c fs cls d,SR X.K w sm σ→XR X.K X.mg w c fs cls d →
    dB X Wout ks (fun D=>jN X.K Wout D l cls d σ w.H) σ w (cO hs c fs sm):=by
  have step:∀ {i:Option Nat} {tab:Str→Option Bool} {m:M Fl} {cv:Value} {hs:List Hn} {l:List Cl} {t:Addr→TS},(∀ k,i=some k→k∉ks) →
      (∀ cn b,tab cn=some b→∀ C,PySem.W.nsIn X.K mainGlobals cn=some (some (.ref C))→PySem.W.exmOne X.K (.ref C) cv=some b)→(∀ a,kh (X.su a) W0 ks (t a) m) →
      (∀ (Wout:WX) σ w sm c fs cls d,SR X.K w sm σ→XR X.K X.mg w c fs cls d→dB X Wout ks (fun D=>jN X.K Wout D l cls d σ w.H) σ w (cO hs c fs sm)) →
      ∀ (Wout:WX) σ w sm c fs cls d,SR X.K w sm σ→XR X.K X.mg w c fs cls d→dB X Wout ks (fun D=>jN X.K Wout D (⟨cv,i,t⟩ :: l) cls d σ w.H) σ w (cO (⟨tab,i,m⟩ :: hs) c fs sm):=by
    intro i tab m cv hs l t hk ht hm ih Wout σ w sm c fs cls d s x
    obtain ⟨C,hC,eC⟩:=x.1
    show dB X Wout ks _ σ w (match tab c with
      | none=>.fail
      | some false=>cO hs c fs sm
      | some true=>match m (lg sm c fs i) with
        | .ok fl sm'=>.ok fl (hdel sm' i)
        | _=>.fail)
    cases hb:tab c with
    | none=>exact trivial
    | some b =>
      have hx:PySem.W.exmOne X.K cls cv=some b:=by rw [eC]; exact ht c b hb C hC
      cases b with
      | false =>
        have q:=ih Wout σ w sm c fs cls d s x
        show dB X Wout ks _ σ w (cO hs c fs sm)
        cases hr:cO hs c fs sm with
        | fail=>exact trivial
        | ok fl sm'=>rw [hr] at q; exact fun D e=>⟨false,hx,fun z=>(nomatch z),fun _=>q D e⟩
        | exc c' fs' sm'=>rw [hr] at q; exact fun e D=>⟨false,hx,fun z=>(nomatch z),fun _=>q e D⟩
      | true =>
        show dB X Wout ks _ σ w (match m (lg sm c fs i) with
        | .ok fl sm'=>.ok fl (hdel sm' i)
        | _=>.fail)
        cases hr:m (lg sm c fs i) with
        | fail=>exact trivial
        | exc c' fs' sm'=>exact trivial
        | ok fl sm' =>
          refine fun D e=>⟨true,hx,fun _ a na=>?_,fun z=>(nomatch z)⟩
          have al:=Al.frozen s.ok na (eZ a cls d)
          have s1:SR X.K { w with H:=upd w.H a (eZ a cls d),F:=fun b=>w.F b∨b=a } (lg sm c fs i) (uf σ a i):=by
            cases i with
            | none=>exact s.al al
            | some i=>exact (s.al al).set i (lG s.ok x na)
          have q:=hm a (uf σ a i) _ _ s1
          rw [hr] at q
          exact q (qJ D i) (xH hk al.gr s1.ok e)
  induction h with
  | nil=>exact ⟨[],fun _ _ _=>.nil,fun Wout σ w sm c fs cls d s x=>fun e D=>e σ w cls d (Gr.refl w) s KS.refl x⟩
  | @none x cv tab m b₀ suite np pos' hds hs hc ht hm r ih =>
    obtain ⟨l,h1,h2⟩:=ih
    obtain ⟨t,hA⟩:=Classical.axiomOfChoice fun a=>(hm a).ex
    refine ⟨⟨cv,none,fun a=>t a W0⟩ :: l,fun j pn xe=>.none (hc j pn xe) (fun a pn'=>(hA a).1 j pn' _ W0 takes0 PassesOwn.never) (h1 j pn xe),step (fun k z=>(nomatch z)) ht (fun a=>(hA a).2 W0) h2⟩
  | @as x n i cv tab m b₀ suite np pos' hds hs hc hi hln hk ht hm r ih =>
    obtain ⟨l,h1,h2⟩:=ih
    obtain ⟨t,hA⟩:=Classical.axiomOfChoice fun a=>(hm a).ex
    refine ⟨⟨cv,some i,fun a=>t a W0⟩ :: l,fun j pn xe=>.as (hc j pn xe) hi (hln j) (fun a pn'=>(hA a).1 j pn' _ W0 takes0 PassesOwn.never) (h1 j pn xe),step (fun k z=>by cases z; exact hk) ht (fun a=>(hA a).2 W0) h2⟩
theorem oh {body:List Stmt} {h₀:ExceptHandler} {hds:List ExceptHandler} {hs:List Hn} {m:M Fl} {pos:Pos} (hst:∀ j,X.X.stack=(X.v j).env :: (X.v j).outer) (hf:∀ j,(X.v j).env.frame=some (X.v j).env.locals) (hN:X.N.Nodup) (hex:∀ j,(X.v j).ex=[])
  (hb:cD X ks body m) (hc:iw X ks (h₀ :: hds) hs):jo X ks (.Try body (h₀ :: hds) [] [] pos) (uh m hs):=by
 obtain ⟨t,hp,hsim⟩:=hb.ex
 obtain ⟨l,hl,hh⟩:=vR hc
 refine ⟨fun W D σ H=>t (jN X.K W D l) D σ H,fun j pn xe W tk pw=>ug (X:=X.at j pn xe) (hst j) (hf j) hN (hex j) tk (fun W' pn' xe' tk' pw'=>hp j pn' xe' W' tk' pw') (hl j pn xe),fun W σ w sm s0=>?_⟩
 have q:=fun D=>hsim (jN X.K W D l) σ w sm s0
 show dB X W ks _ σ w (match m sm with
  | .ok fl sm'=>.ok fl sm'
  | .exc c fs sm'=>cO hs c fs sm'
  | .fail=>.fail)
 cases hm:m sm with
 | fail=>exact trivial
 | ok fl sm' =>
  intro D e
  have:=q D
  rw [hm] at this
  exact this D e
 | exc c fs sm' =>
  show dB X W ks _ σ w (cO hs c fs sm')
  cases hr:cO hs c fs sm' with
  | fail=>exact trivial
  | ok fl sm2 =>
   intro D e
   have q1:=q D
   rw [hm] at q1
   refine q1 (fun σ' w' cls d g s1 k1 x=>?_) D
   have q2:=hh W σ' w' sm' c fs cls d s1 x
   rw [hr] at q2
   exact q2 D (e.shift g s1.ok k1)
  | exc c2 fs2 sm2 =>
   intro e D
   have q1:=q D
   rw [hm] at q1
   refine q1 (fun σ' w' cls d g s1 k1 x=>?_) D
   have q2:=hh W σ' w' sm' c fs cls d s1 x
   rw [hr] at q2
   exact q2 (e.shift g s1.ok k1) D
end


def dN:List (Str × Bool)→Str→Option Bool
 | [],_=>none
 | p :: r,c=>if p.1=c then some p.2 else dN r c
inductive TabOk (K:PySem.W.Frag) (P:Addr→Bool→Prop):List (Str × Bool)→Prop
 | nil:TabOk K P []
 | cons {c:Str} {C:Addr} {b:Bool} {l:List (Str × Bool)} (h:PySem.W.nsIn K mainGlobals c=some (some (.ref C))) (p:P C b) (r:TabOk K P l):TabOk K P ((c,b) :: l)
theorem TabOk.get {K:PySem.W.Frag} {P:Addr→Bool→Prop} {l:List (Str × Bool)} (t:TabOk K P l) {c:Str} {b:Bool} {C:Addr} (e:dN l c=some b) (h:PySem.W.nsIn K mainGlobals c=some (some (.ref C))):P C b:=by
 induction t with
 | nil=>cases e
 | @cons c' C' b' l' h' p r ih =>
  simp only [dN] at e
  split at e
  ·rename_i q
   subst q
   cases e
   rw [h'] at h
   cases h
   exact p
  ·exact ih e
structure Xc (K:PySem.W.Frag) (C:Addr):Prop where
 cl:(PySem.W.clsIn K C).isSome=true
 ga:PySem.W.findIn K (.ref C) "__getattribute__" = some (some (.builtin "BaseException.__getattribute__"))
 gt:PySem.W.findIn K (.ref C) "__getattr__" = some none
 su:PySem.W.subIn K (.ref C) (.type "BaseException")=some true
 ca:PySem.W.findIn K (.ref C) "__class__" = some (some (.builtin "object.__class__"))
 sp:PySem.W.specialIn K (.builtin "object.__class__") "__get__" = some (some (.builtin "getset_descriptor.__get__"))
 tk:PySem.W.takesIn K (.builtin "object.__class__")=some true
 mr:PySem.W.mroIn K C (.type "object")=some true
 hd:PySem.W.hasDictIn K C=true
def j5 (K:PySem.W.Frag) (C:Addr):Bool:=(PySem.W.clsIn K C).isSome && (decide (PySem.W.findIn K (.ref C) "__getattribute__" = some (some (.builtin "BaseException.__getattribute__"))) && (decide (PySem.W.findIn K (.ref C) "__getattr__" = some none) &&
 (decide (PySem.W.subIn K (.ref C) (.type "BaseException")=some true) && (decide (PySem.W.findIn K (.ref C) "__class__" = some (some (.builtin "object.__class__"))) && (decide (PySem.W.specialIn K (.builtin "object.__class__") "__get__" = some (some (.builtin "getset_descriptor.__get__"))) &&
 (decide (PySem.W.takesIn K (.builtin "object.__class__")=some true) && (decide (PySem.W.mroIn K C (.type "object")=some true) && PySem.W.hasDictIn K C)))))))
theorem aj {K:PySem.W.Frag} {C:Addr} (h:j5 K C=true):Xc K C:=by
 unfold j5 at h
 simp only [Bool.and_eq_true,decide_eq_true_eq] at h
 exact ⟨h.1,h.2.1,h.2.2.1,h.2.2.2.1,h.2.2.2.2.1,h.2.2.2.2.2.1,h.2.2.2.2.2.2.1,h.2.2.2.2.2.2.2.1,h.2.2.2.2.2.2.2.2⟩
structure Xt (K:PySem.W.Frag) (mg:Str→Option Value) (x:Str) (tab:List (Str × Bool)):Prop where
 ex:∃ (cv:Value) (v:V),ClsV v cv∧(mg x=some cv∨(mg x=none∧bootBuiltins x=some cv∧x≠"__name__"))∧PySem.W.kitOne K (.type "NoneType") cv=some false∧TabOk K (fun C b=>PySem.W.exmOne K (.ref C) cv=some b∧PySem.W.kitOne K (.ref C) cv=some b∧Xc K C) tab
theorem dG {K:PySem.W.Frag} {mg:Str→Option Value} {x:Str} {X:Addr} {tab:List (Str × Bool)} (h:mg x=some (.ref X)) (hn:PySem.W.kitOne K (.type "NoneType") (.ref X)=some false) (t:TabOk K (fun C b=>PySem.W.exmOne K (.ref C) (.ref X)=some b∧PySem.W.kitOne K (.ref C) (.ref X)=some b∧Xc K C) tab):Xt K mg x tab:=⟨.ref X,.ref X,.own X,.inl h,hn,t⟩
theorem m7 {K:PySem.W.Frag} {mg:Str→Option Value} {x:Str} {n:String} {tab:List (Str × Bool)} (h:mg x=none) (hb:bootBuiltins x=some (.type n)) (hx:x≠"__name__") (hn:PySem.W.kitOne K (.type "NoneType") (.type n)=some false) (t:TabOk K (fun C b=>PySem.W.exmOne K (.ref C) (.type n)=some b∧PySem.W.kitOne K (.ref C) (.type n)=some b∧Xc K C) tab):Xt K mg x tab:=⟨.type n,.ty n,.ty n,.inr ⟨h,hb,hx⟩,hn,t⟩
section
variable {X:Cf} {ks:List Nat}
theorem mF:iw X ks [] []:=.nil
theorem pB {x:Str} {tab:List (Str × Bool)} {m:M Fl} {b₀:Stmt} {suite:List Stmt} {np pos' : Pos} {hds:List ExceptHandler} {hs:List Hn} (h:Xt X.K X.mg x tab) (hg:∀ j,(X.env j).kindOf x=some .globalImplicit)
  (hm:∀ a,cD (X.su a) ks (b₀ :: suite) m) (r:iw X ks hds hs) (hdb:(x == ("__debug__" : Str))=false:=by decide):iw X ks (.ExceptHandler (some (.Name x np)) none (b₀ :: suite) pos' :: hds) (⟨dN tab,.none,m⟩ :: hs):=by
 obtain ⟨cv,v,hc,hx,hn,t⟩:=h.ex
 exact .none (fun j pn xe=>⟨hg j,hdb,hx⟩) (fun cn b e C hC=>(t.get e hC).1) hm r
theorem xJ {x n:Str} {tab:List (Str × Bool)} {m:M Fl} {b₀:Stmt} {suite:List Stmt} {np pos' : Pos} {hds:List ExceptHandler} {hs:List Hn} (i:Nat) (h:Xt X.K X.mg x tab) (hg:∀ j,(X.env j).kindOf x=some .globalImplicit) (hi:X.N[i]? = some n) (hln:∀ j,(X.env j).kindOf n=some .local)
  (hm:∀ a,cD (X.su a) ks (b₀ :: suite) m) (r:iw X ks hds hs) (hk:i∉ks:=by decide) (hdb:(x == ("__debug__" : Str))=false:=by decide):iw X ks (.ExceptHandler (some (.Name x np)) (some n) (b₀ :: suite) pos' :: hds) (⟨dN tab,some i,m⟩ :: hs):=by
 obtain ⟨cv,v,hc,hx,hn,t⟩:=h.ex
 exact .as (fun j pn xe=>⟨hg j,hdb,hx⟩) hi hln hk (fun cn b e C hC=>(t.get e hC).1) hm r
end
def vU (H:Hp) (d:Option Addr):Prop:=d=none∨∃ x fs,d=some x∧H x=some (.xd fs)
def vW (K:PySem.W.Frag):List V→Hp→VK→Prop:=fun xs H Q=>∃ (a C:Addr) (d:Option Addr) (v:V) (cv:Value) (b:Bool),xs=[.ref a,v]∧ClsV v cv∧H a=some (j8 a C d)∧vU H d∧Xc K C∧PySem.W.kitOne K (.ref C) cv=some b∧Q (.bl b) H
theorem vX {X:Cx} {pins:List (Addr × Obj)} {σ:L2.St} {H:Hp} {s:Shared} (I:Inv X pins σ H s) {a C:Addr} {d:Option Addr} (ha:H a=some (j8 a C d)) (hd:vU H d):∃ ox od,PySem.W.InstAt s.heap a ox C od:=by
 obtain ⟨⟨o,vs,e,⟨hc,hdi⟩,hdat⟩,_⟩:=(show ObjOk X.prog X.w H s.heap a (j8 a C d) from I.hok a _ ha)
 rcases hd with rfl | ⟨x,fs,rfl,hx⟩
 ·exact ⟨o,none,e,hc,by unfold PySem.W.notCls; rw [hdat] <;> rfl,by rw [hdi]; trivial⟩
 ·obtain ⟨mA,hns,hr⟩:=(show ObjOk X.prog X.w H s.heap x (.xd fs) from I.hok x _ hx)
  obtain ⟨od,ho,hl⟩:=lookIn_ns hns
  exact ⟨o,some od,e,hc,by unfold PySem.W.notCls; rw [hdat] <;> rfl,by rw [hdi]; exact ho⟩
theorem vY {X:Cx}:CallR X (.builtin "isinstance") (vW X.K):=by
 intro pins s σ H xs us Q I r h
 obtain ⟨a,C,d,v,cv,b,rfl,k,ha,hd,c,e,q⟩:=h
 obtain ⟨u1,u2,rfl,r1,r2⟩:=vals2 r
 cases (show u1=Value.ref a from r1)
 have e2:=k.eq r2
 subst e2
 obtain ⟨ox,od,J⟩:=vX I ha hd
 exact PySem.W.kia_one (PySem.W.kitx_exc c.cl c.ga c.gt c.su c.ca c.sp c.tk c.mr) I.kIn J e (fun z=>nomatch z) fun tk=>⟨.bl b,H,I.tok tk,rfl,q⟩
def D.gW (tab:List (Str × Bool)):D→Option D
 | .exn c _ _=>(dN tab c).map .bl
 | .non=>some (.bl false)
 | _=>none
theorem uX {K:PySem.W.Frag} {w:Wd} {c:Str} {ns:List Str} {ds:List D} {v:V} (h:aP K w (.exn c ns ds) v):∃ (a C:Addr) (d:Option Addr),v = .ref a∧PySem.W.nsIn K mainGlobals c=some (some (.ref C))∧w.H a=some (j8 a C d)∧vU w.H d:=by
 unfold aP Rep at h
 obtain ⟨a,C,d,vs,e,hc,s,f,l,r,q⟩:=h
 refine ⟨a,C,d,e,hc,s,?_⟩
 rcases q with ⟨_,q⟩ | ⟨_,x,ex,hx,_⟩
 ·exact .inl q
 ·exact .inr ⟨x,_,ex,hx⟩
section
variable {X:Cf} {e:Expr} {p q pos:Pos} {m:M D}
theorem yW {Y:Cx} {x:Str} {v:V} {cv:Value} {q:Pos} (hg:Gl Y x) (hc:ClsV v cv) (hx:Y.mg x=some cv∨(Y.mg x=none∧bootBuiltins x=some cv∧x≠"__name__")) (hdb:(x == ("__debug__" : Str))=false):PE Y (.Name x q) (tC v):=by
 rcases hx with h | ⟨h1,h2,h3⟩
 ·exact pe_glob hg h (by cases hc with | ty n=>exact rfl | own C=>exact rfl) hdb
 ·exact pe_bltn hg h1 h2 (by cases hc with | ty n=>exact rfl | own C=>exact rfl) h3 hdb
theorem bZ {x:Str} {tab:List (Str × Bool)} (hx:Xt X.K X.mg x tab) (hg:∀ j,(X.env j).kindOf "isinstance" = some .globalImplicit) (hm:X.mg "isinstance" = none) (hg2:∀ j,(X.env j).kindOf x=some .globalImplicit) (h:PB X e m)
  (hdb:(x == ("__debug__" : Str))=false:=by decide)
  (he:∀ j,starEach [e,.Name x q] (X.env j)=(false,eval e (X.env j)) :: starEach [.Name x q] (X.env j):=by intro _; rfl) (he2:∀ j,starEach [.Name x q] (X.env j)=(false,eval (.Name x q) (X.env j)) :: starEach [] (X.env j):=by intro _; rfl) (hpl:∀ j,(backTo pos (starEach [.Name x q] (X.env j))).any (·.1)=false:=by intro _; rfl) :
  PM X (.Call (.Name "isinstance" p) [e,.Name x q] [] pos) (m1 (D.gW tab) m):=by
 obtain ⟨t,pe,s⟩:=h.ex
 obtain ⟨cv,v,hc,hmg,hn,ht⟩:=hx.ex
 refine ⟨fun W=>tCB (fun xs H Q=>rIsi X.K xs H Q∨vW X.K xs H Q) (tCons (t W) (tCons (tC v) tNil)),fun j pn xe W tk pw=>pe_callB (CallR.or (call_isi (X:=X.at j pn xe)) (vY (X:=X.at j pn xe))) (hg j) hm (by decide +kernel) (pa_cons (pe j pn xe W tk pw) (pa_cons (yW (hg2 j) hc hmg hdb) pa_nil (he2 j)) (he j)) (by decide) (by decide) (he j) (hpl j),fun W=>?_⟩
 refine (s W).bnd (k:=fun x σ H Q=>rIsi X.K [x,v] H Q∨vW X.K [x,v] H Q) fun σ w w1 sm1 d vd ok g1 s1 r1=>?_
 refine aD.opt s1 fun z hz Q q=>?_
 unfold D.gW at hz
 split at hz
 ·rename_i c ns ds
  obtain ⟨a,C,dd,rfl,hC,ha,hd⟩:=uX r1
  cases hb:dN tab c with
  | none=>rw [hb] at hz; cases hz
  | some b =>
   rw [hb] at hz
   cases hz
   obtain ⟨_,h2,h3⟩:=ht.get hb hC
   exact .inr ⟨a,C,dd,v,cv,b,rfl,hc,ha,hd,h3,h2,q _ w1 (Al.refl s1.ok) gR⟩
 ·cases hz
  cases iK r1
  exact .inl ⟨.non,v,.type "NoneType",cv,false,rfl,hc,.base .non,hn,q _ w1 (Al.refl s1.ok) gR⟩
 ·cases hz
def Ci:List (List (Str × Bool))→Str→Option Bool
 | [],_=>some false
 | t :: ts,c=>match dN t c with
  | some true=>some true
  | some false=>Ci ts c
  | none=>none
structure Gh (X:Cf) (es:List Expr) (tabs:List (List (Str × Bool))):Prop where
 ok:∃ (us:List Value) (vs:List V),Paired ClsV vs us∧vs.length=tabs.length∧PySem.W.kitAny X.K (.type "NoneType") us=some false∧(∀ c b C,Ci tabs c=some b→PySem.W.nsIn X.K mainGlobals c=some (some (.ref C))→PySem.W.kitAny X.K (.ref C) us=some b) ∧
  ∀ j pn xe,∃ t,PA (X.at j pn xe) es t∧∀ σ H Q,Q vs H→t σ H Q
structure Xf (K:PySem.W.Frag) (f:Str) (tab:List (Str × Bool)):Prop where
 ok:TabOk K (fun C _=>XfC K C∧PySem.W.findIn K (.ref C) f=some none) tab
def jO:List Str→List D→Str→Option D
 | n :: ns,d :: ds,f=>if f=n then some d else jO ns ds f
 | _,_,_=>none
def D.jP (tab:List (Str × Bool)) (f:Str):D→Option D
 | .exn c ns ds=>(dN tab c).bind fun _=>jO ns ds f
 | _=>none
def yX (K:PySem.W.Frag) (f:Str) (te:TE):TE:=fun σ H Q=>te σ H fun x H1=>∃ (a C dd:Addr) (fs:List (Str × V)) (v:V),x = .ref a∧H1 a=some (j8 a C (some dd))∧XfC K C∧PySem.W.findIn K (.ref C) f=some none∧H1 dd=some (.xd fs)∧fs.lookup f=some v∧Q v H1
theorem yZ {Y:Cx} {f:Str} {te:TE} (he:PE Y e te) (hb:attributeBase e f Y.env (eval e Y.env)=eval e Y.env):PE Y (.Attribute e f pos) (yX Y.K f te):=by
 refine ⟨fun pins s σ H Q I h=>?_⟩
 refine attr_of hb (thn (he.run pins s σ H _ I h) fun u s1 hh=>?_)
 obtain ⟨x,H1,I1,rx,a,C,dd,fs,v,ex,ha,T,hno,ea,l,q⟩:=hh
 subst ex
 obtain rfl:u=Value.ref a:=rx
 obtain ⟨⟨o,vs,e0,⟨hc,hdi⟩,hdat⟩,_⟩:=(show ObjOk Y.prog Y.w H1 s1.heap a (j8 a C (some dd)) from I1.hok a _ ha)
 obtain ⟨mA,hns,hr⟩:=(show ObjOk Y.prog Y.w H1 s1.heap dd (.xd fs) from I1.hok dd _ ea)
 obtain ⟨od,ho,hl⟩:=lookIn_ns hns
 obtain ⟨u,hu,ru⟩:=RelO.some_of (v:=v) (o:=mA f) (by rw [← l]; exact hr f)
 have J:PySem.W.InstAt s1.heap a o C (some od):=⟨e0,hc,by unfold PySem.W.notCls; rw [hdat] <;> rfl,by rw [hdi]; exact ho⟩
 refine HandSPX.exc_get I1.kIn J T.ga T.gg T.exC (PySem.W.findObj_own T.hdC hno rfl ?_) (handed_of ru) ⟨v,H1,I1.tok _,ru,q⟩
 rw [hl,hu]
theorem pC {K:PySem.W.Frag} {w:Wd} {f:Str} {d:D}:∀ {ns:List Str} {ds:List D} {vs:List V},ak K w ds vs→jO ns ds f=some d→∃ v,(ns.zip vs).lookup f=some v∧Rep K w d v
 | [],ds,vs,r,h=>by simp [jO] at h
 | n :: ns,[],vs,r,h=>by simp [jO] at h
 | n :: ns,d' :: ds,vs,r,h=>by
  unfold ak at r
  obtain ⟨v,q,rfl,r1,r2⟩:=r
  simp only [jO] at h
  rw [List.zip_cons_cons]
  split at h
  ·rename_i e
   cases h
   subst e
   exact ⟨v,by rw [lookup_put,if_pos rfl],r1⟩
  ·rename_i e
   obtain ⟨v',e1,r3⟩:=pC r2 h
   exact ⟨v',by rw [lookup_put,if_neg e]; exact e1,r3⟩
theorem jf {f:Str} {tab:List (Str × Bool)} (hx:Xf X.K f tab) (h:PB X e m) (hb:∀ j,attributeBase e f (X.env j) (eval e (X.env j))=eval e (X.env j):=by intro _; rfl):PM X (.Attribute e f pos) (m1 (D.jP tab f) m):=by
 obtain ⟨t,pe,s⟩:=h.ex
 refine ⟨fun W=>yX X.K f (t W),fun j pn xe W tk pw=>yZ (Y:=X.at j pn xe) (pe j pn xe W tk pw) (hb j),fun W=>?_⟩
 refine (s W).bnd (k:=fun x σ H Q=>∃ (a C dd:Addr) (fs:List (Str × V)) (v:V),x = .ref a∧H a=some (j8 a C (some dd))∧XfC X.K C∧PySem.W.findIn X.K (.ref C) f=some none∧H dd=some (.xd fs)∧fs.lookup f=some v∧Q v H) fun σ w w1 sm1 d vd ok g1 s1 r1=>?_
 refine aD.opt s1 fun z hz Q q=>?_
 unfold D.jP at hz
 split at hz
 ·rename_i c ns ds
  cases h1:dN tab c with
  | none=>rw [h1] at hz; cases hz
  | some b1 =>
   rw [h1] at hz
   simp only [Option.bind_some] at hz
   have r2:aP X.K w1 (.exn c ns ds) vd:=r1
   unfold aP Rep at r2
   obtain ⟨a,C,dd,vs,rfl,hC,ha,fa,hl,rv,hq⟩:=r2
   obtain ⟨hT,hno⟩:=hx.ok.get h1 hC
   obtain ⟨v,e1,rr⟩:=pC rv hz
   rcases hq with ⟨rfl,_⟩ | ⟨_,xd,rfl,hxd,_⟩
   ·simp [jO] at hz
   ·exact ⟨a,C,xd,_,v,rfl,ha,hT,hno,hxd,e1,q _ w1 (Al.refl s1.ok) rr⟩
 ·cases hz
end
def lH:Stmt→List Stmt
 | .ClassDef _ _ _ b _ _ _ _ _ _ _=>b
 | _=>[]
def D.DY:D→Bool
 | .non=>true | .bl _=>true | .int _=>true | .str _=>true
 | _=>false


def D.isRef:D→Bool
 | .tup _=>true
 | .lst _=>true
 | _=>false
structure jQ (P:Program) (w:World) (K:PySem.W.Frag) (mg:Str→Option Value) (base:Heap) (CX:CXT) (f:Addr) (fd:FuncData) (ps:List Str) (sp:Sp):Prop where
 run:∀ (s:Shared) (H:Hp) (args:Args) (us:List Value) (vs:List V) (Q:VK) (E:XK),Env0 P w K mg base callerA [] s H→BindsTo s fd args (ps.zip us)→Vals vs us→sp vs H Q E →
  codeAny (model P w) callerA (.call (.ref f) args) (CR CX [] P w H s Q E) s
theorem za {CX:CXT} {P:Program} {w:World} {K:PySem.W.Frag} {mg:Str→Option Value} {base:Heap} {k:Nat} {f:Addr} {x qual:Str} {params:Arguments} {body:List Stmt} {scope:Scope} {dvs:List V} {kws:List (Str × V)} {fd:FuncData}
  {N ps:List Str} {sp:Sp} (F:FunD K x qual params body scope dvs kws f fd) (S:FnScope N ps scope) (hr:Room (k+1) callerA) (len:∀ vs H Q E,sp vs H Q E→vs.length=ps.length)
  (hbody:∀ (cdv:Value) (s:Shared) (H:Hp) (vs:List V) (Q:VK) (E:XK),Room k (callerA.deeper (envOfC qual scope s.heap.objs.size f cdv))→sp vs H Q E →
   ∃ t,PSs (cxOf CX P w K mg base N qual scope f cdv callerA [] s H E) body t∧t { nx:=fun _ H'=>Q .non H',rt:=Q } (start N vs) H) :
  jQ P w K mg base CX f fd ps sp:=by
 obtain ⟨oc,od,dV,kV,doc,pm,an,cdv,ct,osl,rfl,lk,hcd,_,_⟩:=F.ex
 constructor
 intro s H args us vs Q E e0 hb r hsp
 have up:∀ b o,base.get? b=some o→s.heap.get? b=some o:=fun b o e=>(e0.bs b o e).1
 have KX:K.In s.heap:=e0.mod.kin.keeps up
 refine codeAny_call_function hr.depth (KX _ _ lk) rfl S.co S.gen rfl (PySem.W.codeRec_of KX hcd) (hb _ _ _ _ ?_)
 refine wpAny_newFunctionEnv_cells S.kind (fun y hy=>?_) fun env he s1 x=>?_
 ·exact (S.par y.1 (List.of_mem_zip (show (y.1,y.2)∈ps.zip us from hy)).1).imp id fun q=>⟨q,PySem.W.cellsFrom_some _ _ _ (.inl q)⟩
 ·subst he
  refine ⟨(e0.mod.nolimit.keeps up).keeps x.toInCall.keep,codeAny_func ?_⟩
  obtain ⟨t,ht,hq⟩:=hbody cdv s H vs Q E (hr.deeper _) hsp
  have I:=inv_start (CX:=CX) (E:=E) (N:=N) S hr.hd e0 (len _ _ _ _ hsp) r x
  refine wpAny_mono (ht.run [] s1 (start N vs) H _ I hq) (fun fl s' hs=>?_) fun e s' hs=>hs
  match fl,hs with
  | .ret u,⟨v,σ',H',J,rv,q⟩=>exact ⟨v,H',J.os,J.bare,J.base,J.hok,rv,q⟩
  | .next,⟨σ',H',J,q⟩=>exact ⟨V.non,H',J.os,J.bare,J.base,J.hok,rfl,q⟩
  | .brk,⟨_,_,_,q⟩=>exact q.elim
  | .cont,⟨_,_,_,q⟩=>exact q.elim
section
variable {P:Program} {w:World} {K:PySem.W.Frag} {mg:Str→Option Value} {base:Heap}
theorem zf {x qual:Str} {params:Arguments} {body:List Stmt} {scope:Scope} {dvs:List V} {kws:List (Str × V)} {f:Addr} {fd:FuncData} {N ps:List Str} {k:Nat} {ks:List Nat} {mb:M Fl} (F:FunD K x qual params body scope dvs kws f fd) (S:FnScope N ps scope) (n nN:Nat) (hn:ps.length=n) (hnN:N.length=nN) (hr:Room (k+1) callerA)
  (hbody:∀ (cdv:Value) (A:Around) (outer:List Env) (s:Shared) (H:Hp) (E:XK),Room k (A.deeper (envOfC qual scope s.heap.objs.size f cdv))→A.guards=some [] →
   cD (jy (cxOf (L2.CX P w) P w K mg base N qual scope f cdv A outer s H E)) ks body mb):jQ P w K mg base (L2.CX P w) f fd ps (jZ K mg (fnOf ks n nN mb)):=by
 subst hn hnN
 refine za F S hr (fun vs H Q E h=>?_) (fun cdv s H vs Q E hr h=>?_)
 ·obtain ⟨wd,ts,_,hs,_,h⟩:=h
  have hlen:ts.length=vs.length:=by simpa using hs.len
  by_cases hl:ts.length=ps.length
  ·rw [← hlen]; exact hl
  ·have e:fnOf ks ps.length N.length mb ts = .fail:=if_neg hl
   rw [e] at h
   exact h.elim
 ·obtain ⟨wd,ts,rfl,hs,ho,h⟩:=h
  obtain ⟨t,p,sim⟩:=(hbody cdv callerA [] s wd.H E hr rfl).ex
  have hlen:ts.length=vs.length:=by simpa using hs.len
  by_cases hl:ts.length=ps.length
  ·have e:fnOf ks ps.length N.length mb ts=endF ks ps.length (mb (ts.map some++List.replicate (N.length - ps.length) none)):=if_pos hl
   rw [e] at h
   have hlv:vs.length=ps.length:=by rw [← hlen]; exact hl
   refine ⟨t (fun cls d _ H'=>E cls d H'),p () _ _ _ (takes_of rfl rfl rfl rfl) (passes_of rfl),?_⟩
   have ss:=qG N hs
   rw [hl] at ss
   have q:=sim (fun cls d _ H'=>E cls d H') (L2.start N vs) wd _ ss
   have kst:∀ (σ' : L2.St),KS ks (L2.start N vs) σ'→∀ i∈ks,i < ps.length→σ'[i]? = (vs.map some)[i]?:=fun σ' k1 i hi hlt=>by
    rw [k1 i hi]
    unfold L2.start
    rw [List.getElem?_append_left (by simpa [hlv] using hlt)]
   cases hm:mb (ts.map some++List.replicate (N.length - ps.length) none) with
   | fail=>rw [hm] at h; exact h.elim
   | exc c fs s' =>
    rw [hm] at h q
    exact q (fun σ' w' cls d g s1 k1 x=>h cls d w' g (iU s1 hlv (kst σ' k1)) x) _
   | ok fl s' =>
    rw [hm] at h q
    cases fl with
    | nx=>exact q _ fun σ' w' g s1 k1=>h .non w' g (iU s1 hlv (kst σ' k1)) (show Rep K w' .non V.non from nW)
    | bk=>exact h.elim
    | ct=>exact h.elim
    | rt tt=>exact q _ fun v σ' w' g s1 k1 r=>h v w' g (iU s1 hlv (kst σ' k1)) r
  ·have e:fnOf ks ps.length N.length mb ts = .fail:=if_neg hl
   rw [e] at h
   exact h.elim
theorem zj {fm:Fn} {n:Nat} (h:∀ ns:List Int,ns.length≤n→(∀ z∈ns,Builtin.Int.intBits z≤1048576)→∃ outs,fm [.val (.scr ns)] = .ok (.val (.bl true)) outs) {vs:List V} {H:Hp} {Q:VK} {E:XK} (hs:spLaw n K vs H Q E):jZ K mg fm vs H Q E:=by
 obtain ⟨a,ns,rfl,hS,hl,hb,q⟩:=hs
 obtain ⟨outs,e⟩:=h ns hl hb
 have fin:∀ (wd:Wd),wd.H=H→wd.Ok→(∀ a,¬ wd.O a)→Rep K wd (.scr ns) (.ref a)→jZ K mg fm [.ref a] H Q E:=fun wd eH ok no r=>by
  refine ⟨wd,[.val (.scr ns)],eH,⟨ok,rfl,fun i t hi=>?_,fun i j t u v ne h1 h2 o1 o2=>?_,fun i j t os a n h1 o1=>?_⟩,fun b hb=>absurd hb (no b),?_⟩
  ·cases i with
   | zero=>simp at hi; subst hi; exact ⟨_,rfl,r⟩
   | succ i=>simp at hi
  ·cases i with
   | zero=>simp at h1; subst h1; cases o1
   | succ i=>simp at h1
  ·cases i with
   | zero=>simp at h1; subst h1; cases o1
   | succ i=>simp at h1
  ·rw [e]
   intro v w' g s' r'
   cases gQ (Rep.b (show Rep K w' (.bl true) v from r'))
   exact q _
 rcases hS with hr | hk
 ·refine fin ⟨fun b=>b=a,fun _=>False,H,fun _=>none,none⟩ rfl ⟨fun _ _ z=>z,fun _ z=>z.elim,fun b hb=>?_,(fun _ _ _ z=>nomatch z),fun _ z=>nomatch z⟩ (fun _ z=>z) (by unfold Rep; exact ⟨a,rfl,.inl ⟨hr,rfl⟩⟩)
  have hb' : b=a:=hb
  subst hb'
  rcases hr with z | ⟨o,z⟩
  ·exact ⟨_,z⟩
  ·exact ⟨_,z⟩
 ·exact fin ⟨fun _=>False,fun _=>False,H,fun _=>none,none⟩ rfl ⟨fun _ z=>z.elim,fun _ z=>z.elim,fun _ z=>z.elim,(fun _ _ _ z=>nomatch z),fun _ z=>nomatch z⟩ (fun _ z=>z) (by unfold Rep; exact ⟨a,rfl,.inr hk⟩)
theorem vZ {fa:Addr} {fd:FuncData} {x:Str} {fm:Fn} {n:Nat} (F:jQ P w K mg base (L2.CX P w) fa fd [x] (jZ K mg fm))
  (h:∀ ns:List Int,ns.length≤n→(∀ z∈ns,Builtin.Int.intBits z≤1048576)→∃ outs,fm [.val (.scr ns)] = .ok (.val (.bl true)) outs):jQ P w K mg base (L2.CX P w) fa fd [x] (spLaw n K) :=
 ⟨fun s H args us vs Q E e0 hb hv hs=>F.run s H args us vs Q E e0 hb hv (zj h hs)⟩
end
theorem uY {P:Program} {w:World} {K:PySem.W.Frag} {h:Heap} {a:Addr} {vs:List Value} {ns:List Int} (KX:K.In h) (ha:h.get? a=some { cls:=.type "list",data:=.seq vs.toArray }) (hi:IntsAre vs ns) (hl:ns.length≤sizeLine) :
  ∃ H:Hp,Only H∧SqL K H a (ns.map V.int)∧HOk P w H h∧∀ b,H b≠none→b=a∧K.lookup a=none:=by
 have rv:=vals_ints hi
 cases hk:K.lookup a with
 | some o =>
  have e:=(KX a o hk).symm.trans ha
  cases e
  exact ⟨fun _=>none,fun _=>.inl rfl,.inr ⟨_,vs.toArray,_,hk,rfl,rfl,rfl,by rw [List.size_toArray,hi.length]; exact hl,by simpa using rv⟩,fun _ _ z=>(nomatch z),fun _ z=>absurd rfl z⟩
 | none =>
  refine ⟨fun b=>if b=a then some (.frz { cls:=.type "list",data:=.seq vs.toArray } (.lst (ns.map V.int))) else none,fun b=>?_,.inl (.inr ⟨_,if_pos rfl⟩),fun b u z=>?_,fun b z=>⟨Classical.byContradiction fun n=>z (if_neg n),rfl⟩⟩
  ·by_cases e:b=a
   ·exact .inr ⟨_,_,if_pos e⟩
   ·exact .inl (if_neg e)
  ·have e:b=a:=Classical.byContradiction fun n=>by have:=(if_neg n).symm.trans z; cases this
   subst e
   cases (if_pos rfl).symm.trans z
   exact ⟨ha,by rw [List.length_map]; exact hl,vs,_,rv,ha⟩
theorem uZ {P:Program} {w:World} {K:PySem.W.Frag} {mg mb:Str→Option Value} {CX:CXT} {fa a:Addr} {fd:FuncData} {x:Str} {sp:Sp} {s₁:Shared} {vs:List Value} {ns:List Int}
    (KX:K.In s₁.heap) (hns:s₁.heap.Ns mainGlobals mg) (hb:s₁.heap.Ns builtinsNs mb) (hbb:∀ x:Str,x≠"__name__"→mb x=bootBuiltins x) (hlim:s₁.heap.NoLimit) (hsr:s₁.heap.NoSeer) (hg:s₁.gens = #[])
    (ha:s₁.heap.get? a=some { cls:=.type "list",data:=.seq vs.toArray }) (hi:IntsAre vs ns) (hl:ns.length≤sizeLine)
    (F:∀ base:Heap,K.In base→base.Ns mainGlobals mg→base.NoSeer→jQ P w K mg base CX fa fd [x] sp) (hbind:∀ (s:Shared) (u:Value),BindsTo s fd ⟨[u],[]⟩ [(x,u)])
    (hsp:∀ H:Hp,Only H→SqL K H a (ns.map V.int)→sp [.ref a] H (fun v _=>v = .bl true) fun _ _ _=>False)
    (hCX:∀ H e s',CX [] H s₁ (fun _ _ _=>False) e s'→False) :
    codeAny (model P w) callerA (.call (.ref fa) ⟨[.ref a],[]⟩) (fun r s'=>r = .ok (.ret (.bool true))∧OldK s₁.heap s'.heap∧s'.os=s₁.os∧AllBare s'.gens) s₁:=by
  obtain ⟨H,hO,hS,hok,hA⟩:=uY (P:=P) (w:=w) KX ha hi hl
  have free:∀ {b:Addr} {o:Obj},s₁.heap.get? b=some o→(b=a→K.lookup a=none→False)→(hidT s₁.heap H).get? b=some o:=fun {b o} e n =>
    hidT_get e (Classical.byContradiction fun z=>n (hA b z).1 (hA b z).2)
  have nsK:∀ {b:Addr} {m:Str→Option Value},s₁.heap.Ns b m→(hidT s₁.heap H).Ns b m:=fun {b m} ⟨o,es,ep,e,d,r⟩ =>
    ⟨o,es,ep,free e (fun z _=>by subst z; cases e.symm.trans ha; cases d),d,r⟩
  have hKb:K.In (hidT s₁.heap H):=fun b o e=>free (KX b o e) (fun z n=>by subst z; rw [n] at e; cases e)
  have hsr2:(hidT s₁.heap H).NoSeer :=
    ⟨let ⟨mc,h1,h2⟩:=hsr.statics; ⟨mc,nsK h1,h2⟩,let ⟨mc,h1,h2⟩:=hsr.mods; ⟨mc,nsK h1,h2⟩,let ⟨mc,h1,h2⟩:=hsr.imp; ⟨mc,nsK h1,h2⟩,
     let ⟨mc,bm,ob,h1,h2,h3,h4,h5⟩:=hsr.main; ⟨mc,bm,ob,nsK h1,h2,free h3 (fun z _=>by subst z; cases h3.symm.trans ha; have h6:Value.type "list" = Value.type "module":=h4; injection h6 with h7; exact absurd h7 (by decide)),h4,h5⟩⟩
  obtain ⟨mc,l1,l2⟩:=hlim
  have hM:Mod K mg (hidT s₁.heap H):=⟨hKb,nsK hns,⟨mb,nsK hb,hbb⟩,⟨mc,nsK l1,l2⟩⟩
  have e0:Env0 P w K mg (hidT s₁.heap H) callerA [] s₁ H:=⟨rfl,hM,fun b o e=>of_hidT e,Nat.le_of_eq (hidT_size _ _),trivial,fun b hb=>(List.not_mem_nil hb).elim,hok,.of_eq hg⟩
  refine codeAny_mono ((F _ hKb (nsK hns) hsr2).run s₁ H ⟨[.ref a],[]⟩ [.ref a] [.ref a] _ _ e0 (hbind s₁ (.ref a)) (.cons rfl .nil) (hsp H hO hS)) fun r s' h=>?_
  match r,h with
  | .error e,h=>exact (hCX H e s' h).elim
  | .ok .next,h=>exact h.elim
  | .ok .brk,h=>exact h.elim
  | .ok .cont,h=>exact h.elim
  | .ok (.ret u),⟨v,H',os,bare,un,hok',r',q⟩ =>
    cases (show v = .bl true from q)
    cases (show u=Value.bool true from r')
    refine ⟨rfl,OldK.of_keep fun b o e=>?_,os,bare⟩
    rcases hO b with z | ⟨ob,xs,z⟩
    · exact un.keep b o e z (fun m=>List.not_mem_nil m) (fun m=>List.not_mem_nil m)
    · have e1:=(hok b _ z).1
      rw [e] at e1; cases e1
      exact (hok' b _ (un.frzs b o _ z)).1
theorem walk_topD {l:PySem.W.OpenLaw} {n:Nat} {q:Program} {loose:List Str} {XP:(Str→Option Value)→Heap→Prop} {YP:World→Heap→Prop} {d:DefRec} {K:Params→PySem.W.Frag} {CX:World→CXT} {sp:World→Sp} {x:Str}
  (hn:l.most=some n) (hn2:n≤sizeLine) (hdf:d.params.defaults=[]) (hq:importsNone q=true) (ht:l.prog.given.tree=none)
  (hY:∀ (w:World) (h:Heap),YP w h→(K w.params).In h)
  (F:∀ (w:World) (mg:Str→Option Value) (fa:Addr) (h:Heap),(K w.params).In h→h.Ns mainGlobals mg→mg d.name=some (.ref fa) →
   ∃ fd:FuncData,(∀ (s:Shared) (u:Value),BindsTo s fd ⟨[u],[]⟩ [(x,u)]) ∧
    ∀ base:Heap,(K w.params).In base→base.Ns mainGlobals mg→Dv l.prog base→jQ l.prog w (K w.params) mg base (CX w) fa fd [x] (sp w))
  (hsp:∀ (w:World) (H:Hp) (a:Addr) (ns:List Int),ns.length≤n→(∀ z∈ns,Builtin.Int.intBits z≤1048576)→Only H→SqL (K w.params) H a (ns.map V.int)→sp w [.ref a] H (fun v _=>v = .bl true) fun _ _ _=>False)
  (hCX:∀ (w:World) (H:Hp) (s:Shared) (e:Value) (s' : Shared),CX w [] H s (fun _ _ _=>False) e s'→False) :
  PySem.W.WalkO q loose XP YP l.row.toRowW d [] (fun f vs=>PySem.call f vs):=by
 refine Att.attach_callB hn hdf fun w s₀ s₁ mg mb fa o pm cd doc a vs ns G Y ho hd hcd hmg hobj hints hlen hbits hg=>?_
 obtain ⟨fd,hb,hF⟩:=F w mg fa _ (hY w _ Y) G.T.g hmg
 exact uZ (hY w _ Y) G.T.g G.T.b G.T.builtins G.T.nolimit (G.T.seer hq) hg hobj hints (Nat.le_trans hlen hn2) (fun base h1 h2 h3=>hF base h1 h2 ⟨ht,h3⟩) hb (fun H hO hS=>hsp w H a ns hlen hbits hO hS) fun H e s'=>hCX w H s₁ e s'


end Mir
namespace Mir
open PySem PySem.Spec PyProof.Rows L2
def fP:Key→PyData
 | .inl i=>.int i
 | .inr x=>.str x
mutual
def D.toQ:D→PyData
 | .non=>.none
 | .bl b=>.bool b
 | .int i=>.int i
 | .str x=>.str x
 | .tup ds=>.tuple (D.aG ds)
 | .lst ds=>.list (D.aG ds)
 | .dic ks ds=>.dict ((ks.map fP).zip (D.aG ds))
 | .scr _=>.none
 | .exn _ _ _=>.none
 | .ob _=>.none
def D.aG:List D→List PyData
 | []=>[]
 | d :: ds=>d.toQ :: D.aG ds
end
mutual
def D.qK:D→Bool
 | .tup ds=>D.jg ds
 | .lst ds=>D.jg ds
 | .dic ks ds=>decide (ks.length=ds.length) && D.jg ds
 | .scr _=>false
 | .exn _ _ _=>false
 | .ob _=>false
 | _=>true
def D.jg:List D→Bool
 | []=>true
 | d :: ds=>d.qK && D.jg ds
end
theorem mG:∀ ds:List D,(D.aG ds).length=ds.length
 | []=>rfl
 | d :: ds=>by show (D.aG ds).length+1=_; rw [mG ds]; rfl
theorem oA {α β:Type}:∀ {a:List α} {b:List β},a.length=b.length→(a.zip b).map (·.1)=a
 | [],[],_=>rfl
 | x :: a,y :: b,h=>by rw [List.zip_cons_cons,List.map_cons,oA (by simpa using h)]
theorem oE {α β:Type}:∀ {a:List α} {b:List β},a.length=b.length→(a.zip b).map (·.2)=b
 | [],[],_=>rfl
 | x :: a,y :: b,h=>by rw [List.zip_cons_cons,List.map_cons,oE (by simpa using h)]
section
variable {X:Cx} {pins:List (Addr × Obj)} {σ:List (Option V)} {s:Shared} {w:Wd}
theorem u5 {P:Program} {W:World} {h:Heap} {el:List DictEntry} {us:List (Key × Value)} (hp:Pairs (mixKind P W) el us):∀ {ks:List Key} {vs:List V},KV (ks.zip vs) us→ks.length=vs.length →
  Vals vs (el.map fun e=>e.val)∧ReadsAll h (el.map fun e=>e.key) (ks.map fP) []:=by
 induction hp with
 | nil =>
  intro ks vs kv hl
  cases ks with
  | nil =>
   obtain rfl:vs=[]:=List.eq_nil_of_length_eq_zero hl.symm
   exact ⟨.nil,.nil⟩
  | cons k ks =>
   cases vs with
   | nil=>simp at hl
   | cons v vs=>rw [List.zip_cons_cons] at kv; cases kv
 | cons h1 h2 h3 ih =>
  intro ks vs kv hl
  cases ks with
  | nil=>cases kv
  | cons k ks =>
   cases vs with
   | nil=>simp at hl
   | cons v vs =>
    rw [List.zip_cons_cons] at kv
    cases kv with
    | cons q1 q2 =>
     obtain ⟨i1,i2⟩:=ih q2 (by simpa using hl)
     have hk:=h1
     rw [← q1.1] at hk
     refine ⟨.cons (by dsimp only; rw [h2]; exact q1.2) i1,ReadsAll.cons (as:=[]) (bs:=[]) ?_ i2⟩
     dsimp only
     rcases keyIs_shape hk with ⟨i,t,e1,e2⟩ | ⟨x,t,e1,e2⟩
     ·have e1:k = .inl i:=e1
      rw [e1,e2]; exact Reads.int i t
     ·have e1:k = .inr x:=e1
      rw [e1,e2]; exact Reads.str x t
theorem u6 (I:Inv X pins σ w.H s) {a:Addr} {ks:List Key} {vs:List V} (h:Rd w.H a (.dK (ks.zip vs))) (hl:ks.length=vs.length):(a == sysModules)=false∧∃ o es n,s.heap.get? a=some o∧o.cls = .type "dict"∧o.data = .dict es n ∧
  Vals vs (es.toList.map fun e=>e.val)∧ReadsAll s.heap (es.toList.map fun e=>e.key) (ks.map fP) []:=by
 obtain ⟨_,hsys,us,kv,o,es,n,ho,hx,hd,_,hp,_⟩:=h.ok I.hok
 exact ⟨hsys,o,es,n,ho,hx.1,hd,u5 hp kv hl⟩
mutual
theorem Rep.cA (I:Inv X pins σ w.H s):∀ (d:D) (v:V) (u:Value),d.qK=true→Rep X.K w d v→RelV v u→∃ as,Reads s.heap u d.toQ as
 | .non,v,u,_,h,r=>by
  unfold Rep at h; subst h; cases r; exact ⟨_,Reads.none⟩
 | .bl b,v,u,_,h,r=>by
  unfold Rep at h; subst h; cases r; exact ⟨_,Reads.bool b⟩
 | .int i,v,u,_,h,r=>by
  unfold Rep at h; subst h; obtain ⟨t,rfl⟩:=r; exact ⟨_,Reads.int i t⟩
 | .str x,v,u,_,h,r=>by
  unfold Rep at h; subst h; obtain ⟨t,rfl⟩:=r; exact ⟨_,Reads.str x t⟩
 | .scr _,v,u,ok,_,_=>by cases ok
 | .exn _ _ _,v,u,ok,_,_=>by cases ok
 | .ob _,v,u,ok,_,_=>by cases ok
 | .tup ds,v,u,ok,h,r=>by
  unfold Rep at h
  obtain ⟨a,vs,rfl,hs,hr⟩:=h
  cases r
  obtain ⟨its,rv,⟨o,ho,hc,n,hd⟩,_⟩:=I.tuple hs
  obtain ⟨as,q⟩:=ak.cA I ds vs its ok hr rv
  exact ⟨_,Reads.tuple ho hc hd q⟩
 | .lst ds,v,u,ok,h,r=>by
  unfold Rep at h
  obtain ⟨a,vs,rfl,hs,_,hr⟩:=h
  cases r
  obtain ⟨its,rv,⟨o,n,ho,hc,_,hd⟩,_⟩:=I.list (.inl (.inl hs))
  obtain ⟨as,q⟩:=ak.cA I ds vs its ok hr rv
  exact ⟨_,Reads.list ho hc hd q⟩
 | .dic ks ds,v,u,ok,h,r=>by
  unfold Rep at h
  obtain ⟨a,vs,rfl,hs,_,hl,hr⟩:=h
  cases r
  have ok2:D.jg ds=true:=(Bool.and_eq_true_iff.1 ok).2
  obtain ⟨hsys,o,es,n,ho,hc,hd,hv,hk⟩:=u6 I hs (hl.trans hr.len)
  obtain ⟨as,q⟩:=ak.cA I ds vs _ ok2 hr hv
  have hz:(ks.map fP).length=(D.aG ds).length:=by rw [List.length_map,mG,hl]
  refine ⟨_,Reads.dict ho hc hd (kvs:=(ks.map fP).zip (D.aG ds)) (as:=[]) (bs:=as) ?_ ?_⟩
  ·rw [oA hz]; exact hk
  ·rw [oE hz]; exact q
theorem ak.cA (I:Inv X pins σ w.H s):∀ (ds:List D) (vs:List V) (us:List Value),D.jg ds=true→ak X.K w ds vs→Vals vs us→∃ as,ReadsAll s.heap us (D.aG ds) as
 | [],vs,us,_,h,r=>by
  unfold ak at h; subst h; cases r; exact ⟨_,ReadsAll.nil⟩
 | d :: ds,vs,us,ok,h,r=>by
  unfold ak at h
  obtain ⟨v,vs,rfl,h1,h2⟩:=h
  cases r with
  | cons r1 r2 =>
   obtain ⟨o1,o2⟩:=Bool.and_eq_true_iff.1 ok
   obtain ⟨as,q1⟩:=Rep.cA I d _ _ o1 h1 r1
   obtain ⟨bs,q2⟩:=ak.cA I ds _ _ o2 h2 r2
   exact ⟨_,ReadsAll.cons q1 q2⟩
end
theorem jR {P:Program} {W:World} {h:Heap} {u:Value} {d:PyData} {as:List Addr} (r:Reads h u d as) (hs:d.showable=true) (hd:d.hasDict=false) (hz:d.shown.length≤sizeLine) :
  ∃ bs,ReadAtMost h d.depth bs∧ReprK P W bs h d.depth u d.shown:=ReprK.of_reads r hs (PyData.noDict_hsm hd) hz
mutual
theorem Rep.shows (I:Inv X pins σ w.H s):∀ (d:D) (v:V) (u:Value),d.qK=true→Rep X.K w d v→RelV v u→d.toQ.showable=true→d.toQ.shown.length≤sizeLine →
  ∃ bs,ReadAtMost s.heap d.toQ.depth bs∧ReprK X.prog X.w bs s.heap d.toQ.depth u d.toQ.shown
 | .non,v,u,ok,h,r,hs,hz=>(Rep.cA I _ v u ok h r).elim fun _ q=>jR q hs rfl hz
 | .bl b,v,u,ok,h,r,hs,hz=>(Rep.cA I _ v u ok h r).elim fun _ q=>jR q hs rfl hz
 | .int i,v,u,ok,h,r,hs,hz=>(Rep.cA I _ v u ok h r).elim fun _ q=>jR q hs rfl hz
 | .str x,v,u,ok,h,r,hs,hz=>(Rep.cA I _ v u ok h r).elim fun _ q=>jR q hs rfl hz
 | .scr _,v,u,ok,_,_,_,_=>by cases ok
 | .exn _ _ _,v,u,ok,_,_,_,_=>by cases ok
 | .ob _,v,u,ok,_,_,_,_=>by cases ok
 | .tup ds,v,u,ok,h,r,hs,hz=>by
  obtain ⟨as0,r0⟩:=Rep.cA I (.tup ds) v u ok h r
  unfold Rep at h
  obtain ⟨a,vs,rfl,hq,hr⟩:=h
  cases r
  obtain ⟨its,rv,⟨o,ho,hc,n,hd⟩,_⟩:=I.tuple hq
  have hz2:(tupleText (PyData.shownAll (D.aG ds))).length≤sizeLine:=hz
  obtain ⟨bs,hb,hk⟩:=ak.shows I ds vs its ok hr rv hs fun t ht=>Nat.le_trans (tupleText_mem_le ht) hz2
  have hlt:PyData.depthAll (D.aG ds) < (D.tup ds).toQ.depth:=by simp only [D.toQ,PyData.depth]; omega
  have hn:=not_mem_of_deeper r0 hlt hb
  refine ⟨a :: bs,ReadAtMost.cons r0 (Nat.le_of_lt hlt) hb,?_⟩
  show ReprK _ _ _ _ (PyData.depthAll (D.aG ds)+1) _ (tupleText _)
  exact ReprK.tuple ho hc hd hn hk
 | .lst ds,v,u,ok,h,r,hs,hz=>by
  obtain ⟨as0,r0⟩:=Rep.cA I (.lst ds) v u ok h r
  unfold Rep at h
  obtain ⟨a,vs,rfl,hq,_,hr⟩:=h
  cases r
  obtain ⟨its,rv,⟨o,n,ho,hc,_,hd⟩,_⟩:=I.list (.inl (.inl hq))
  have hz2:(listText (PyData.shownAll (D.aG ds))).length≤sizeLine:=hz
  obtain ⟨bs,hb,hk⟩:=ak.shows I ds vs its ok hr rv hs fun t ht=>Nat.le_trans (listText_mem_le ht) hz2
  have hlt:PyData.depthAll (D.aG ds) < (D.lst ds).toQ.depth:=by simp only [D.toQ,PyData.depth]; omega
  have hn:=not_mem_of_deeper r0 hlt hb
  refine ⟨a :: bs,ReadAtMost.cons r0 (Nat.le_of_lt hlt) hb,?_⟩
  show ReprK _ _ _ _ (PyData.depthAll (D.aG ds)+1) _ (listText _)
  cases its with
  | nil =>
   have e0:PyData.shownAll (D.aG ds)=[]:=by
    have:=hk.length_eq
    simpa using this
   rw [e0,listText_nil]
   exact ReprK.listEmpty ho hc hd
  | cons y l=>exact ReprK.list ho hc hd hn (by simpa using hk.length_eq) fun i z e=>hk.item i z (by simpa using e)
 | .dic ks ds,v,u,ok,h,r,hs,hz=>by
  obtain ⟨as0,r0⟩:=Rep.cA I (.dic ks ds) v u ok h r
  unfold Rep at h
  obtain ⟨a,vs,rfl,hq,_,hl,hr⟩:=h
  cases r
  have ok2:D.jg ds=true:=(Bool.and_eq_true_iff.1 ok).2
  obtain ⟨hsys,o,es,n,ho,hc,hd,hv,hk⟩:=u6 I hq (hl.trans hr.len)
  have hzl:(ks.map fP).length=(D.aG ds).length:=by rw [List.length_map,mG,hl]
  obtain ⟨sk,sv⟩:=PyData.showableKv_split ((ks.map fP).zip (D.aG ds)) hs
  have hz2:(dictText (PyData.shownKv ((ks.map fP).zip (D.aG ds)))).length≤sizeLine:=hz
  have lk:=fun t ht=>let ⟨p,hp,hl⟩:=PyData.shownKv_key_le ((ks.map fP).zip (D.aG ds)) t ht; Nat.le_trans hl (Nat.le_trans (dictText_mem_le hp) hz2)
  have lv:=fun t ht=>let ⟨p,hp,hl⟩:=PyData.shownKv_val_le ((ks.map fP).zip (D.aG ds)) t ht; Nat.le_trans hl (Nat.le_trans (dictText_mem_le hp) hz2)
  have dk:=PyData.depthAll_keys_le ((ks.map fP).zip (D.aG ds))
  have dv:=PyData.depthAll_vals_le ((ks.map fP).zip (D.aG ds))
  have e1:PyData.shownKv ((ks.map fP).zip (D.aG ds))=_:=PyData.shownKv_eq _
  rw [oA hzl] at sk lk dk e1
  rw [oE hzl] at sv lv dv e1
  obtain ⟨b1,hb1,k1⟩:=ReprAllK.of_readsAll (prog:=X.prog) (w:=X.w) hk sk (fun _ z=>nomatch z) lk
  obtain ⟨b2,hb2,k2⟩:=ak.shows I ds vs _ ok2 hr hv sv lv
  have hb:=ReadAtMost.append (hb1.mono dk) (hb2.mono dv)
  have hlt:PyData.depthKv ((ks.map fP).zip (D.aG ds)) < (D.dic ks ds).toQ.depth:=by simp only [D.toQ,PyData.depth]; omega
  have hn:=not_mem_of_deeper r0 hlt hb
  refine ⟨a :: (b1++b2),ReadAtMost.cons r0 (Nat.le_of_lt hlt) hb,?_⟩
  show ReprK _ _ _ _ (PyData.depthKv _+1) _ (dictText (PyData.shownKv _))
  rw [e1]
  exact ReprK.dict ho hc hd hsys hn (ReprEntriesK.of_two es.toList _ _ (k1.more_le (fun b hb=>List.mem_append.2 (.inl hb)) dk) (k2.more_le (fun b hb=>List.mem_append.2 (.inr hb)) dv))
theorem ak.shows (I:Inv X pins σ w.H s):∀ (ds:List D) (vs:List V) (us:List Value),D.jg ds=true→ak X.K w ds vs→Vals vs us→PyData.showableAll (D.aG ds)=true→(∀ t∈PyData.shownAll (D.aG ds),t.length≤sizeLine) →
  ∃ bs,ReadAtMost s.heap (PyData.depthAll (D.aG ds)) bs∧ReprAllK X.prog X.w bs s.heap (PyData.depthAll (D.aG ds)) us (PyData.shownAll (D.aG ds))
 | [],vs,us,_,h,r,_,_=>by
  unfold ak at h; subst h; cases r
  exact ⟨[],(fun _ z=>nomatch z),.nil⟩
 | d :: ds,vs,us,ok,h,r,hs,hz=>by
  unfold ak at h
  obtain ⟨v,vs,rfl,h1,h2⟩:=h
  cases r with
  | cons r1 r2 =>
   obtain ⟨o1,o2⟩:=Bool.and_eq_true_iff.1 ok
   obtain ⟨p1,p2⟩ : d.toQ.showable=true∧PyData.showableAll (D.aG ds)=true:=Bool.and_eq_true_iff.1 hs
   obtain ⟨b1,m1,k1⟩:=Rep.shows I d _ _ o1 h1 r1 p1 (hz _ (List.mem_cons_self ..))
   obtain ⟨b2,m2,k2⟩:=ak.shows I ds _ _ o2 h2 r2 p2 fun t ht=>hz t (List.mem_cons_of_mem _ ht)
   show ∃ bs,ReadAtMost s.heap (max d.toQ.depth (PyData.depthAll (D.aG ds))) bs∧ReprAllK X.prog X.w bs s.heap (max d.toQ.depth (PyData.depthAll (D.aG ds))) _ (d.toQ.shown :: PyData.shownAll (D.aG ds))
   refine ⟨b1++b2,ReadAtMost.append (m1.mono (Nat.le_max_left _ _)) (m2.mono (Nat.le_max_right _ _)),.cons ?_ (k2.more_le (fun b hb=>List.mem_append.2 (.inr hb)) (Nat.le_max_right _ _))⟩
   exact (k1.more fun b hb=>List.mem_append.2 (.inl hb)).level_le (Nat.le_max_left _ _)
end
end
def Cz (K:PySem.W.Frag) (w:Wd) (a:Addr):D→Prop
 | .lst ds=>∃ vs,w.H a=some (.lst vs)∧ak K w ds vs
 | .tup ds=>∃ vs,SqT K w.H a vs∧ak K w ds vs
 | _=>False
def qL (K:PySem.W.Frag):List V→Hp→VK→Prop:=fun xs H Q=>∃ (w:Wd) (d:D) (a:Addr),w.H=H∧xs=[V.ref a]∧Cz K w a d∧d.qK=true∧d.toQ.showable=true∧d.toQ.depth < 20∧d.toQ.shown.length≤1000000∧Q (.str d.toQ.shown) H
theorem uo {X:Cx} (hg:X.A.guards=some []) (hu:X.A.units+64 < cLine):CallR X (.builtin "repr") (qL X.K):=by
 intro pins s σ H xs us Q I r h
 obtain ⟨w,d,a,rfl,rfl,ht,ok,hs,hdep,hsz,q⟩:=h
 obtain ⟨u,rfl,ru⟩:=vals1 r
 cases ru
 have fin:∀ (h' : Heap) (u tk:Nat),(∀ b o,s.heap.get? b=some o→h'.get? b=some o)→EP X pins σ Q (.str d.toQ.shown u) { s with heap:=h',toks:=tk }:=fun h' u tk hk =>
  ⟨.str d.toQ.shown,w.H,I.turnedL (ch:=[]) (fun b o _=>hk b o) (by simp),⟨u,rfl⟩,q⟩
 have hsz2:d.toQ.shown.length≤sizeLine:=by rw [sizeLine_eq]; omega
 cases d with
 | tup ds =>
  obtain ⟨vs,hq,hr⟩:=ht
  obtain ⟨its,rv,⟨o,ho,hc,n,hd⟩,_⟩:=I.tuple hq
  have hz2:(tupleText (PyData.shownAll (D.aG ds))).length≤sizeLine:=hsz2
  obtain ⟨bs,hb,hk⟩:=ak.shows I ds vs its ok hr rv hs fun t ht=>Nat.le_trans (tupleText_mem_le ht) hz2
  obtain ⟨as,ra⟩:=ak.cA I ds vs its ok hr rv
  have r0:Reads s.heap (.ref a) (.tuple (D.aG ds)) _:=Reads.tuple ho hc hd ra
  simp only [D.toQ,PyData.depth] at hdep
  have hn:=not_mem_of_deeper r0 (show PyData.depthAll (D.aG ds) < PyData.depthAll (D.aG ds)+1 by omega) hb
  exact call_repr_slot (T:="tuple") (by omega) ⟨o,ho,hc⟩ F.slot_tuple_repr (call_tuple_reprK ho hc hd hn hk hg (fun b _=>Clear.nil b) (by show X.A.units+1+_ < cLine; omega) (fun _ _ e=>e) (fun h' u tk hk=>⟨_,_,rfl,fin h' u tk hk⟩) hz2)
 | lst ds =>
  obtain ⟨vs,hq,hr⟩:=ht
  obtain ⟨its,rv,⟨o,n,ho,hc,_,hd⟩,_⟩:=I.list (.inl (.inl hq))
  have hz2:(listText (PyData.shownAll (D.aG ds))).length≤sizeLine:=hsz2
  obtain ⟨bs,hb,hk⟩:=ak.shows I ds vs its ok hr rv hs fun t ht=>Nat.le_trans (listText_mem_le ht) hz2
  obtain ⟨as,ra⟩:=ak.cA I ds vs its ok hr rv
  have r0:Reads s.heap (.ref a) (.list (D.aG ds)) _:=Reads.list ho hc hd ra
  simp only [D.toQ,PyData.depth] at hdep
  have hn:=not_mem_of_deeper r0 (show PyData.depthAll (D.aG ds) < PyData.depthAll (D.aG ds)+1 by omega) hb
  refine call_repr_slot (T:="list") (by omega) ⟨o,ho,hc⟩ F.slot_list_repr.toG ?_
  cases its with
  | nil =>
   have e0:PyData.shownAll (D.aG ds)=[]:=by
    have:=hk.length_eq
    simpa using this
   refine call_list_repr_empty ⟨o,ho,hc⟩ ho hd ⟨_,_,rfl,?_⟩
   have e1:(D.lst ds).toQ.shown = "[]":=by show listText _=_; rw [e0,listText_nil]
   rw [← e1]
   exact fin s.heap _ _ fun _ _ e=>e
  | cons y l=>exact call_list_reprK ho hc hd hn (by simpa using hk.length_eq) (fun i z e=>hk.item i z (by simpa using e)) hg (fun b _=>Clear.nil b) (by show X.A.units+1+_ < cLine; omega) (fun _ _ e=>e) (fun h' u tk hk=>⟨_,_,rfl,fin h' u tk hk⟩) hz2
 | _=>exact ht.elim
def D.qM (d:D):Bool:=d.isRef && d.qK && d.toQ.showable && decide (d.toQ.depth < 20) && decide (d.toQ.shown.length≤1000000)
def D.m9 (d:D):Option D:=if d.qM then some (.str d.toQ.shown) else none
theorem v5 (K:PySem.W.Frag):oZ K (qL K) D.m9:=by
 intro w x vx z ok rx h Q q
 unfold D.m9 at h
 split at h
 ·rename_i hc
  cases h
  unfold D.qM at hc
  simp only [Bool.and_eq_true,decide_eq_true_eq] at hc
  obtain ⟨⟨⟨⟨h1,h2⟩,h3⟩,h5⟩,h6⟩:=hc
  cases x with
  | tup ds =>
   obtain ⟨a,vs,rfl,hs,hr⟩:=fY rx
   exact ⟨w,.tup ds,a,rfl,rfl,⟨vs,hs,hr⟩,h2,h3,h5,h6,q _ w (Al.refl ok) fB⟩
  | lst ds =>
   obtain ⟨a,vs,rfl,hs,hr⟩:=iQ rx
   exact ⟨w,.lst ds,a,rfl,rfl,⟨vs,hs,hr⟩,h2,h3,h5,h6,q _ w (Al.refl ok) fB⟩
  | _=>cases h1
 ·cases h
end Mir
namespace Mir
open PySem PySem.Spec PyProof.Rows L2

structure Gi (AO:List V→HO) (w0 w:Wd) (p:Addr) (us:List V):Prop where
 at_:w.H p=some (AO us)
 nf:¬ w.F p
 no:¬ w.O p
 new:w0.H p=none
theorem Keep.r {w w' : Wd} (k:Keep w w') (ok:w.Ok):fO w w':=⟨fun a o f h=>k.kept a o h (ok.apart a f),fun a o h n=>k.kept a o h fun z=>n (by have m:=ok.mu a z; rw [h] at m; exact m),k.fr,k.pr⟩
def Bb (K:PySem.W.Frag) (w:Wd) (ds:List D) (J:It):Prop:=∀ w',fO w w'→w'.Ok →
 (∀ i d,ds[i]? = some d→J.go i w'.H∧∀ x H',J.yld i w'.H x H'→∃ w2,Al w' w2∧w2.H=H'∧Rep K w2 d x)∧∀ i,ds.length≤i→J.stop i w'.H
structure Gj (X:Cf) (tg iter:Expr) (m:M (List D)):Prop where
 ex:∃ t:WX→TI,(∀ j pn xe W,Takes (X.at j pn xe) W→iY X j xe→PI (X.at j pn xe) tg iter (t W))∧∀ W,aR X W (fun _ _ w' ds J=>Bb X.K w' ds J) (t W) m

def txOf (e:Int × Value):Str:=match e.2 with
 | .str x _=>x
 | _=>Str.empty
structure Bc (W:World) (e:Int × Value):Prop where
 ex:∃ x u,e.2=Value.str x u∧e.1=hashStr W x
structure SetT (W:World) (h:Heap) (a:Addr) (L:List Str):Prop where
 ex:∃ (o:Obj) (es:Array (Int × Value)) (ep:Nat) (t:SetTable),h.get? a=some o∧o.ExactSet∧o.data = .set es ep t∧(∀ e∈es.toList,Bc W e)∧(es.toList.map txOf).Perm L∧L.Nodup ∧
  es.size < scanBound∧t.fits es.size=true∧Ris t.place.toList∧(W.params.followText "set-order" = true∨t.led=true)
section
variable {P:Program} {W:World} {A:Around} {E:Value→Shared→Prop} {s:Shared} {a:Addr} {L:List Str}
theorem SetT.at {h h' : Heap} (R:SetT W h a L) (k:∀ o,h.get? a=some o→h'.get? a=some o):SetT W h' a L:=by
 obtain ⟨o,es,ep,t,ho,r⟩:=R.ex
 exact ⟨o,es,ep,t,k o ho,r⟩
end



structure Gx (z TI TO i j k l m n:Addr):Prop where
 nd:[z,TI,TO,i,j,k].Nodup
 l:l∉[z,TI,TO,i,j,k]
 m:m∉[z,TI,TO,i,j,k]
 n:n∉[z,TI,TO,i,j,k]
end Mir
namespace Mir
open PySem PySem.Spec PyProof.Rows L2
theorem Ca.at {K:PySem.W.Frag} {w:Wd} {sm:Sg} {σ:L2.St} (s:SR K w sm σ) {k n:Nat} {os:List Ob} {o:Ob} (hk:sm[k]? = some (some (.sto os))) (ho:os[n]? = some o):∃ a,w.P n=some a∧iH w o a∧j9 K w o a:=by
 obtain ⟨v,_,_,_,_,st⟩:=s.slot k _ hk
 exact st n o ho
structure Gy (K:PySem.W.Frag) (c f:Str):Prop where
 ex:∃ C,PySem.W.nsIn K mainGlobals c=some (some (.ref C))∧Cls K C∧NoAttr K C f
def zm (K:PySem.W.Frag) (mg:Str→Option Value) (fm:Fn):Sp:=fun vs H Q E=>jZ K mg fm (vs++[V.non]) H Q E
structure Mt (P:Program) (w:World) (K:PySem.W.Frag) (mg:Str→Option Value) (base:Heap) (k:Nat) (c m:Str) (ps:List Str) (fm:Fn) (sh:FuncData→Prop):Prop where
 ex:∃ C f fd,PySem.W.nsIn K mainGlobals c=some (some (.ref C))∧Cls K C∧Meth K C m f∧FnOk P w K mg base (L2.CX P w) k f fd ps (zm K mg fm)∧sh fd
structure Gz (P:Program) (w:World) (K:PySem.W.Frag) (mg:Str→Option Value) (base:Heap) (k:Nat) (c:Str) (ps:List Str) (fm:Fn) (sh:FuncData→Prop):Prop where
 ex:∃ C f fd,PySem.W.nsIn K mainGlobals c=some (some (.ref C))∧mg c=some (.ref C)∧Mk K C f∧FnOk P w K mg base (L2.CX P w) k f fd ps (zm K mg fm)∧sh fd
mutual
def D.cM:D→Bool
 | .ob _=>false
 | .tup ds=>D.jx ds
 | .lst ds=>D.jx ds
 | .dic _ ds=>D.jx ds
 | .exn _ _ ds=>D.jx ds
 | _=>true
def D.jx:List D→Bool
 | []=>true
 | d :: ds=>d.cM && D.jx ds
end
def T.cM:T→Bool
 | .val d=>d.cM
 | .own xs=>D.jx xs
 | .owd kvs=>D.jx (kvs.map (·.2))
 | .sto _=>false
mutual
theorem Rep.cM {K:PySem.W.Frag} {w w' : Wd} (hH:w'.H=w.H) (hF:w'.F=w.F):∀ (d:D) (v:V),d.cM=true→Rep K w d v→Rep K w' d v
 | .non,v,_,r=>r
 | .bl _,v,_,r=>r
 | .int _,v,_,r=>r
 | .str _,v,_,r=>r
 | .tup ds,v,f,r=>by
  unfold Rep at r ⊢
  obtain ⟨a,vs,e,s,q⟩:=r
  exact ⟨a,vs,e,by rw [hH]; exact s,ak.cM hH hF ds vs f q⟩
 | .lst ds,v,f,r=>by
  unfold Rep at r ⊢
  obtain ⟨a,vs,e,s,fa,q⟩:=r
  exact ⟨a,vs,e,by rw [hH]; exact s,by rw [hF]; exact fa,ak.cM hH hF ds vs f q⟩
 | .dic ks ds,v,f,r=>by
  unfold Rep at r ⊢
  obtain ⟨a,vs,e,s,fa,l,q⟩:=r
  exact ⟨a,vs,e,by rw [hH]; exact s,by rw [hF]; exact fa,l,ak.cM hH hF ds vs f q⟩
 | .scr ns,v,f,r=>by
  unfold Rep at r ⊢
  rw [hH,hF]; exact r
 | .exn c ns ds,v,f,r=>by
  unfold Rep at r ⊢
  obtain ⟨a,C,d,vs,e,hc,s,fa,l,q,z⟩:=r
  exact ⟨a,C,d,vs,e,hc,by rw [hH]; exact s,by rw [hF]; exact fa,l,ak.cM hH hF ds vs f q,by rw [hH,hF]; exact z⟩
 | .ob _,v,f,_=>by cases f
theorem ak.cM {K:PySem.W.Frag} {w w' : Wd} (hH:w'.H=w.H) (hF:w'.F=w.F):∀ (ds:List D) (vs:List V),D.jx ds=true→ak K w ds vs→ak K w' ds vs
 | [],vs,_,r=>by unfold ak at r ⊢; exact r
 | d :: ds,vs,f,r=>by
  unfold ak at r ⊢
  obtain ⟨v,q,e,r1,r2⟩:=r
  obtain ⟨f1,f2⟩:=Bool.and_eq_true_iff.1 f
  exact ⟨v,q,e,Rep.cM hH hF d v f1 r1,ak.cM hH hF ds q f2 r2⟩
end
theorem aY.cM {K:PySem.W.Frag} {w w' : Wd} (hH:w'.H=w.H) (hF:w'.F=w.F) (hO:w'.O=w.O) {t:T} {v:V} (f:t.cM=true) (r:aY K w t v):aY K w' t v:=by
 cases t with
 | val d=>exact Rep.cM hH hF d v f r
 | own xs=>obtain ⟨a,vs,e,h1,h2,h3⟩:=r; exact ⟨a,vs,e,by rw [hH]; exact h1,by rw [hO]; exact h2,ak.cM hH hF _ _ f h3⟩
 | owd xs=>obtain ⟨a,vs,e,h1,h2,h3⟩:=r; exact ⟨a,vs,e,by rw [hH]; exact h1,by rw [hO]; exact h2,ak.cM hH hF _ _ f h3⟩
 | sto os=>cases f
theorem aY.Bf {K:PySem.W.Frag} {w:Wd} {t:T} {v:V} (p:Nat→Option Addr) (z:Option (Nat→Option Addr)) (f:t.cM=true) (r:aY K w t v):aY K { w with P:=p,Z:=z } t v:=aY.cM (w:=w) (w':={ w with P:=p,Z:=z }) rfl rfl rfl f r
theorem SR.local {K:PySem.W.Frag} {w:Wd} {ts:List T} {vs:List V} (s:SR K w (ts.map some) (vs.map some)) (h:ts.all T.cM=true) :
  SR K { w with P:=fun _=>none,Z:=none } ((ts++[T.sto []]).map some) ((vs++[V.non]).map some):=by
 have hl:ts.length=vs.length:=by simpa using s.len
 have at_:∀ (i:Nat) (t:T),((ts++[T.sto []]).map some)[i]? = some (some t)→(i < vs.length∧(ts.map some)[i]? = some (some t)∧t.cM=true)∨(i=vs.length∧t = .sto []):=fun i t e=>by
  rw [List.getElem?_map] at e
  by_cases hi:i < ts.length
  ·rw [List.getElem?_append_left hi,List.getElem?_eq_getElem hi] at e
   simp only [Option.map_some,Option.some.injEq] at e
   subst e
   exact .inl ⟨by omega,by rw [List.getElem?_map,List.getElem?_eq_getElem hi]; rfl,List.all_eq_true.mp h _ (List.getElem_mem hi)⟩
  ·rw [List.getElem?_append_right (by omega)] at e
   cases hd:i - ts.length with
   | zero=>rw [hd] at e; simp at e; exact .inr ⟨by omega,e.symm⟩
   | succ q=>rw [hd] at e; simp at e
 have lo:∀ i,i < vs.length→((vs++[V.non]).map some)[i]? = (vs.map some)[i]?:=fun i hi=>by
  rw [List.map_append,List.getElem?_append_left (by simpa using hi)]
 refine ⟨⟨s.ok.apart,s.ok.mu,s.ok.trk,(fun _ _ _ z=>nomatch z),fun _ z=>nomatch z⟩,by simp [hl],fun i t e=>?_,fun i j t u v ne e1 e2 o1 o2 ev ev'=>?_,fun i j t os a n e1 o1 e2 ev hn=>?_⟩
 ·rcases at_ i t e with ⟨hi,e1,f⟩ | ⟨rfl,rfl⟩
  ·obtain ⟨v,ev,r⟩:=s.slot i t e1
   exact ⟨v,by rw [lo i hi]; exact ev,r.Bf _ _ f⟩
  ·refine ⟨.non,by simp,rfl,rfl,fun _ _=>rfl,fun n o z=>by simp at z⟩
 ·rcases at_ i t e1 with ⟨hi,f1,q1⟩ | ⟨rfl,rfl⟩
  ·rw [lo i hi] at ev
   rcases at_ j u e2 with ⟨hj,f2,q2⟩ | ⟨rfl,rfl⟩
   ·rw [lo j hj] at ev'
    exact s.dis i j t u v ne f1 f2 o1 o2 ev ev'
   ·have:v = .non:=by simpa using ev'.symm
    subst this
    obtain ⟨v',e',r⟩:=s.slot i t f1
    rw [ev] at e'; cases e'
    obtain ⟨a,z,_⟩:=r.pU o1 (by cases t <;> first | rfl | cases q1)
    cases z
  ·have:v = .non:=by simpa using ev.symm
   subst this
   rcases at_ j u e2 with ⟨hj,f2,q2⟩ | ⟨rfl,rfl⟩
   ·rw [lo j hj] at ev'
    obtain ⟨v',e',r⟩:=s.slot j u f2
    rw [ev'] at e'; cases e'
    obtain ⟨a,z,_⟩:=r.pU o2 (by cases u <;> first | rfl | cases q2)
    cases z
   ·exact ne rfl
 ·exact fun z=>nomatch z
end Mir
namespace Mir
open PySem PySem.Spec PyProof.Rows L2


end Mir
namespace Mir
open PySem PySem.Spec PyProof.Rows L2 RT

end Mir
namespace Mir
open PySem PySem.Spec PyProof.Rows L2

def Ob.t:Ob→Option T
 | .lst xs=>some (.own xs)
 | .dct kvs=>some (.owd kvs)
 | _=>none
def Bg (K:PySem.W.Frag) (w:Wd) (ck:Sg→Prop) (ds:List D) (J:It):Prop:=∀ w' sm' σ',Keep w w'→SR K w' sm' σ'→ck sm' →
 (∀ i d,ds[i]? = some d→J.go i w'.H∧∀ x H',J.yld i w'.H x H'→∃ w2,Al w' w2∧w2.H=H'∧Rep K w2 d x)∧∀ i,ds.length≤i→J.stop i w'.H
structure GD (X:Cf) (tg iter:Expr) (m:M (List D × (Sg→Prop))):Prop where
 ex:∃ t:WX→TI,(∀ j pn xe W,Takes (X.at j pn xe) W→iY X j xe→PI (X.at j pn xe) tg iter (t W))∧∀ W,aR X W (fun _ _ w' p J=>Bg X.K w' p.2 p.1 J) (t W) m
def CG (X:Cf) (vs:List Nat) (k:(L2.St→Hp→Prop)→Prop) (σ:L2.St) (w:Wd):Option Sg→Prop
 | some sm'=>∀ Q,(∀ σ' w',Al w w'→SR X.K w' sm' σ'→o7 vs σ σ'→Q σ' w'.H)→k Q
 | none=>True
structure GF (X:Cf) (vs:List Nat) (tg:Expr) (a:GA):Prop where
 ex:∃ g:TG,(∀ j pn xe,PG (X.at j pn xe) tg g)∧∀ σ w sm d v,SR X.K w sm σ→Rep X.K w d v→CG X vs (fun Q=>g v σ w.H Q) σ w (a d sm)

structure GJ (P:Program) (w:World) (K:PySem.W.Frag) (mg:Str→Option Value) (base:Heap) (k:Nat) (x:Str) (ps:List Str) (fm:Fn) (sh:FuncData→Prop):Prop where
 ex:∃ f fd,FnOk P w K mg base (L2.CX P w) k f fd ps (zm K mg fm)∧mg x=some (.ref f)∧PySem.W.keepIn K (.ref f)=true∧sh fd
def zp:Bool→Heap→Addr→Addr→Nat→Prop
 | true,h,i,l,n=>h.IsListIter i l n
 | false,h,i,l,n=>h.IsTupleIter i l n
theorem zp.at {k:Bool} {h h' : Heap} {a l:Addr} {i:Nat} (x:zp k h a l i) (e:∀ o,h.get? a=some o→h'.get? a=some o):zp k h' a l i:=by
 cases k
 ·exact Heap.IsTupleIter.at x e
 ·exact Heap.IsListIter.at x e


structure Ea (w w' : Wd):Prop where
 GP:∀ b k,Rd w.H b (.dK k)→Rd w'.H b (.dK k)
 ex:∀ b o,w.H b=some o→(∀ k,o≠.dK k)→(∀ u k,o≠.frz u (.dK k))→w'.H b=some o
 F:w'.F=w.F
 P:w'.P=w.P
structure GX (w w' : Wd):Prop extends Ea w w' where
 own:∀ b o,w.O b→w.H b=some o→w'.H b=some o
 O:w'.O=w.O
 nf:∀ b o,¬ w.F b→w.H b=some o→w'.H b=some o

end Mir
namespace PySem.SeqAt
open AutoSeq1 (wpAny_loadPart')
open MeetsSeq MeetsSeq2 MeetsSeq3 SeqRoads2
end PySem.SeqAt
namespace Mir
open PySem PySem.Spec PyProof.Rows L2







end Mir
open PySem PySem.Spec PyProof.Rows
namespace L2
end L2
namespace Mir
open L2

end Mir
namespace Mir
open PySem PySem.Spec PyProof.Rows L2

theorem zq {CX:CXT} {P:Program} {w:World} {K:PySem.W.Frag} {mg:Str→Option Value} {base:Heap} {N:List Str} {qual:Str} {sc:Scope} {f:Addr} {cd:Value} {A:Around} {outer:List Env} {s:Shared} {H:Hp} {E:XK} {k:Nat} {va:Va} {pn:List (Addr × Obj)} {xe:Value→Shared→Prop}
  (hv:Dv P base) (hr:Room k (A.deeper (envOfC qual sc s.heap.objs.size f cd))) (hk:32≤k) (g1:sc.isGenerator=false) (g2:sc.isCoroutine=false):Cd (Cx.va (cxOf CX P w K mg base N qual sc f cd A outer s H E) va pn xe) :=
 ⟨hv,⟨_,_,rfl,g1,g2,rfl,rfl⟩,by have:=hr.dp; show (A.deeper (envOfC qual sc s.heap.objs.size f cd)).depth+100 < recursionLimit; unfold recursionLimit at *; omega⟩

def Cj (K:PySem.W.Frag) (w w' : Wd) (kvs:List (Key × D)) (d:D) (v:V):Prop :=
 ∃ p x u,v = .ref p∧SqT K w'.H p [x,u]∧iW K w w' (.owd kvs) x∧Rep K w' d u
abbrev MO:=M (List (Key × D) × D)
def Eb (X:Cf) (W:WX) (ks:List Nat) (k:Ends→Prop) (σ:L2.St) (w:Wd):R (List (Key × D) × D)→Prop
 | .fail=>True
 | .ok kd sm'=>∀ D:Ends,(∀ v σ' w',Gr w w'→SR X.K w' sm' σ'→KS ks σ σ'→Cj X.K w w' kd.1 kd.2 v→D.rt v w'.H)→k D
 | .exc c fs sm'=>XW X W ks σ w sm' c fs→∀ D,k D
def CJ (X:Cf) (W:WX) (ks:List Nat) (t:TS) (m:MO):Prop:=∀ σ w sm,SR X.K w sm σ→Eb X W ks (fun D=>t D σ w.H) σ w (m sm)
structure GZ (X:Cf) (ks:List Nat) (sts:List Stmt) (m:MO):Prop where
 ex:∃ t:WX→TS,(∀ j pn xe W,Takes (X.at j pn xe) W→iY X j xe→PSs (X.at j pn xe) sts (t W))∧∀ W,CJ X W ks (t W) m
inductive RO where
 | ok (kvs:List (Key × D)) (d:D) (outs:Sg) | exc (c:Str) (fs:List (Str × D)) (outs:Sg) | fail
abbrev FnO:=List T→RO
def CK (K:PySem.W.Frag) (mg:Str→Option Value) (fm:FnO):Sp:=fun vs H Q E=>∃ (w:Wd) (ts:List T),w.H=H∧SR K w (ts.map some) (vs.map some)∧(∀ a,w.O a→∃ (i:Nat) (t:T) (v:V),ts[i]? = some t∧t.owned=true∧vs[i]? = some v∧iZ w t v a) ∧
 match fm ts with
 | .fail=>False
 | .ok kvs d outs=>∀ v w',Gr w w'→SR K w' outs (vs.map some)→Cj K w w' kvs d v→Q v w'.H
 | .exc c fs outs=>∀ cls d w',Gr w w'→SR K w' outs (vs.map some)→XR K mg w' c fs cls d→E cls d w'.H
structure Gk (P:Program) (w:World) (K:PySem.W.Frag) (mg:Str→Option Value) (base:Heap) (k:Nat) (x:Str) (ps:List Str) (fm:FnO) (sh:FuncData→Prop):Prop where
 ex:∃ f fd,FnOk P w K mg base (L2.CX P w) k f fd ps (CK K mg fm)∧mg x=some (.ref f)∧PySem.W.keepIn K (.ref f)=true∧sh fd
end Mir
namespace L2
open PySem PySem.Spec PyProof.Rows
end L2
namespace Mir
open PySem PySem.Spec PyProof.Rows L2

end Mir
namespace L2
open PySem PySem.Spec PyProof.Rows
end L2
namespace Mir
open PySem PySem.Spec PyProof.Rows L2






end Mir
namespace L2
open PySem PySem.Spec PyProof.Rows
end L2
namespace Mir
open PySem PySem.Spec PyProof.Rows L2








end Mir
namespace PySem
namespace tG
open Builtin Builtin.ObjectAttr PySem.HandSPX PyProof.Rows
abbrev wM:List Value:=[.type "LookupError",.type "Exception",.type "BaseException",.type "object"]
abbrev zu:List Value:=.type "KeyError" :: wM
def eV (l:List Value):Bool:=l == wM || l == zu
theorem qN {l:List Value} (h:eV l=true):l=wM∨l=zu:=by
 unfold eV at h
 rcases Bool.or_eq_true _ _ |>.mp h with h | h
 ·exact .inl (beq_iff_eq.mp h)
 ·exact .inr (beq_iff_eq.mp h)
theorem xK (self:Value):refuseLoop self "__setattr__" wM=pure ():=by kernel_rfl
theorem xM (self:Value):refuseLoop self "__setattr__" zu=pure ():=by kernel_rfl
theorem zA (self:Value) {l:List Value} (h:eV l=true):refuseLoop self "__setattr__" l=pure ():=by
 rcases qN h with rfl | rfl
 ·exact xK self
 ·exact xM self
theorem uw {l:List Value} (h:eV l=true):l.contains (.type "LookupError")=true∧l.contains (.type "AttributeError")=false∧l.contains (.type "NameError")=false∧l.contains (.type "object")=true∧l.isEmpty=false:=by
 rcases qN h with rfl | rfl
 ·decide +kernel
 ·decide +kernel
end tG
end PySem
namespace PySem
namespace tG
open Builtin Builtin.ObjectAttr PySem.W PySem.Calls PyProof.Rows PySem.HandSPX
abbrev u9 (nm q:Str) (C N:Addr) (bs bm:List Value) (hd:Bool) (sn:List Str) (sub:List Value) (ab:Bool) (col:Option Bool) (dd:Option Addr) (k0 k1 k2 k3 k5:Option Value):Obj:=excClassObj nm q C N bs bm hd sn sub ab col dd k0 k1 k2 k3 k5 "LookupError.__new__"
section
variable {prog:Program} {w:World} {A:Around} {E:Value→Shared→Prop} {R:Result→Shared→Prop} {h:Heap} {g:Array GenState} {d:Drawn} {t:Nat} {os:OsState}
variable {nm q:Str} {C N:Addr} {bs bm:List Value} {hd:Bool} {sn:List Str} {sub:List Value} {ab:Bool} {col:Option Bool} {dd:Option Addr} {k0 k1 k2 k3 k5:Option Value}
theorem Bh {M:Model} (m:eV bm=true) {rest:List Value} {Q:Unit→Shared→Prop} (hC:h.get? C=some (u9 nm q C N bs bm hd sn sub ab col dd k0 k1 k2 k3 k5)) (hq:Q () ⟨h,g,d,t,os⟩) :
  wpAny M A (checkBuiltinCall "LookupError.__new__" ⟨.ref C :: rest,[]⟩) Q E ⟨h,g,d,t,os⟩:=by
 have FL:=F.excBase_LookupError
 have c1:(Value.ref C :: bm).contains (.type "LookupError")=true:=by rw [List.contains_cons,(uw m).1,Bool.or_true]
 have ns:=FL.noStar
 simp only [checkBuiltinCall,FL.newKind,FL.newSplit,FL.newRow]
 repeat (first
  | refine wpAny_loadPart_at hC ?_
  | (refine wpAny_isSubtype_exc hC ?_; rw [c1])
  | refine wpAny_staticBase_exc hC ?_
  | refine wpAny_madeBy_exc hC ?_
  | simp only [bne_self_eq_false,Bool.false_eq_true,if_false]
  | wp_step)
 exact hq
theorem Bj (m:eV bm=true) {rest:List Value} (hC:h.get? C=some (u9 nm q C N bs bm hd sn sub ab col dd k0 k1 k2 k3 k5))
  (hq:R (.ok (.ret (.ref (h.objs.size+1)))) ⟨(h.push { cls:=.type "tuple",data:=.seq rest.toArray }).push { cls:=.ref C,data:=.fields #[.ref h.objs.size,.none,.none,.none,.bool false,.none] },g,d,t,os⟩) (hz:rest.length≤sizeLine) :
  codeAny (model prog w) A (.builtin "LookupError.__new__" ⟨.ref C :: rest,[]⟩) R ⟨h,g,d,t,os⟩:=by
 have FL:=F.excBase_LookupError
 have en:=FL.ends
 obtain ⟨m1,m2,m3,_,_⟩:=uw m
 have c1:(Value.ref C :: bm).contains (.type "LookupError")=true:=by rw [List.contains_cons,m1,Bool.or_true]
 have c2:(Value.ref C :: bm).contains (.type "AttributeError")=false:=by rw [List.contains_cons,m2]; rfl
 have c3:(Value.ref C :: bm).contains (.type "NameError")=false:=by rw [List.contains_cons,m3]; rfl
 refine codeAny_builtinAt FL.entry ?_
 unfold Builtin.«BaseException.__new__»
 refine wpAt_bind ?_
 show wpAt _ _ _ (stack >>= _) _ _ _
 (refine wpAt_bind (wpAt_stack fun p below=>wpAt_of_wpAny ?_); wp_walk; refine wpAt_of_wpAny ?_; rw [FL.owner])
 repeat (first
  | with_reducible refine wpAny_madeHere_exc FL.canon hC ?_
  | with_reducible refine wpAny_loadPart_at hC ?_
  | (with_reducible refine wpAny_isSubtype_exc hC ?_; first | rw [c1] | rw [c2] | rw [c3])
  | wp_step)
 (show R _ _; rw [Heap.size_push]; exact hq)
theorem zB (m:eV bm=true) {rest:List Value} {fI:Addr} {Q:Fin→Shared→Prop} (hC:h.get? C=some (u9 nm q C N bs bm hd sn sub ab col dd k0 k1 k2 k3 k5))
  (hi:W.Looks (model prog w) h (typeLookup (.ref C) "__init__") (some (.ref fI))) (hb:∀ self,W.Looks (model prog w) h (bindSpecial (.ref fI) self) (.ref fI,[self])) (hz:rest.length≤sizeLine)
  (hq:codeAny (model prog w) A (.call (.ref fI) ⟨.ref (h.objs.size+1) :: rest,[]⟩) (fun r s'=>match r with | .ok (.ret v)=>v = .none∧Q (.done (.ret (.ref (h.objs.size+1)))) s' | .ok _=>False | .error e=>E e s') ⟨(h.push (W.kdv_tup rest)).push (excO C h.objs.size),g,d,t,os⟩) :
  wpAny (model prog w) A (Builtin.«type.__call__» ⟨.ref C :: rest,[]⟩) Q E ⟨h,g,d,t,os⟩:=by
 have FL:=F.excBase_LookupError
 repeat (first
  | with_reducible refine wpAny_loadPart_at hC ?_
  | with_reducible refine wpAny_madeBy_exc hC ?_
  | wp_step)
 refine codeAny_call_builtin_code (Code.quiet_builtin _ FL.quiet) (Bh m hC (Bj m hC ?_ hz))
 show wpAny _ _ _ _ _ _
 have k:∀ b o,h.get? b=some o→((h.push (W.kdv_tup rest)).push (excO C h.objs.size)).get? b=some o:=fun b o z=>Heap.get?_push_of_some _ (Heap.get?_push_of_some _ z)
 have hC1:=k _ _ hC
 have he:((h.push (W.kdv_tup rest)).push (excO C h.objs.size)).get? (h.objs.size+1)=some (excO C h.objs.size):=by heap_get
 have c4:(Value.ref C :: bm).contains (.ref C)=true:=by simp
 have i1:=hi.keeps k
 have b1:=(hb (.ref (h.objs.size+1))).keeps k
 unfold isInstance
 repeat (first
  | with_reducible refine wpAny_loadPart_at he ?_
  | (with_reducible refine wpAny_isSubtype_exc hC1 ?_; rw [c4])
  | wp_step)
 (show wpAny _ _ (typeLookup (.ref C) _) _ _ _; refine i1.at ?_)
 refine wpAny_holding (wpAny_bind (b1.at (wpAny_bind (wpAny_call (codeAny_mono hq fun r s' z=>?_)))))
 cases r with
 | error e=>exact z
 | ok fl =>
  cases fl with
  | ret v =>
   obtain ⟨rfl,z⟩:=z
   first
    | exact wpAny_pure (wpAny_pure z)
    | (wp_walk; done)
    | (wp_walk; exact z)
  | next=>exact z.elim
  | brk=>exact z.elim
  | cont=>exact z.elim
theorem zE (m:eV bm=true) {rest:List Value} {fI:Addr} (hC:h.get? C=some (u9 nm q C N bs bm hd sn sub ab col dd k0 k1 k2 k3 k5))
  (hi:W.Looks (model prog w) h (typeLookup (.ref C) "__init__") (some (.ref fI))) (hb:∀ self,W.Looks (model prog w) h (bindSpecial (.ref fI) self) (.ref fI,[self])) (hz:rest.length≤sizeLine)
  (hq:codeAny (model prog w) (A.under (.builtin "type.__call__" ⟨.ref C :: rest,[]⟩)) (.call (.ref fI) ⟨.ref (h.objs.size+1) :: rest,[]⟩) (W.InitBack (h.objs.size+1) R) ⟨(h.push (W.kdv_tup rest)).push (excO C h.objs.size),g,d,t,os⟩) :
  codeAny (model prog w) A (.call (.ref C) ⟨rest,[]⟩) R ⟨h,g,d,t,os⟩:=by
 have f1:=tc_lookup
 have f2:=tc_bind (.ref C)
 have hT:(⟨h,g,d,t,os⟩ : Shared).TypeIs (.ref C) "type":=⟨_,hC,rfl⟩
 refine codeAny_of_tree ?_
 show wpAny _ _ (callAny (.ref C) _) _ _ _
 repeat (any_goals (first
  | assumption
  | with_reducible refine wpAny_loadPart_at hC ?_
  | wp_step))
 refine ⟨rfl,codeAny_call_builtin_at (Code.quiet_builtin _ (by decide +kernel)) entry_typeCall (wpAny_check_type_call_sub hC (zB m hC hi hb hz (codeAny_mono hq fun r s' z=>?_)))⟩
 cases r with
 | error e=>exact z
 | ok fl=>cases fl <;> exact z
theorem Bl {K:W.Frag} {name:Str} {tk:Tok} {v:Value} {x C:Addr} {fv:Array Value} {cd:ClassData} {bm:List Value} (X:K.In h) (hx:h.get? x=some { cls:=.ref C,data:=.fields fv }) (hcd:W.clsIn K C=some cd) (hm:cd.mro = .ref C :: bm) (m:eV bm=true) (hh:cd.hasDict=true) (ha:W.findIn K (.ref C) name=some none)
  (hq:∀ h' tk' dx,(∀ b o,b≠x→h.get? b=some o→h'.get? b=some o)→h.objs.size≤dx→dx≠x→h'.get? x=some { cls:=.ref C,dict:=some dx,data:=.fields fv }→h'.Ns1 dx (fun y=>if y=name then some v else none)→R (.ok (.ret .none)) ⟨h',g,d,tk',os⟩) :
  codeAny (model prog w) A (.call (.builtin "object.__setattr__") ⟨[.ref x,.str name tk,v],[]⟩) R ⟨h,g,d,t,os⟩:=by
 have I:W.InstAt h x { cls:=.ref C,data:=.fields fv } C none:=⟨hx,rfl,rfl,trivial⟩
 have SF:=F.store_object
 have hxs:x≠h.objs.size:=Nat.ne_of_lt (Heap.lt_size hx)
 have ob:cd.mro.contains (.type "object")=true:=by rw [hm,List.contains_cons,(uw m).2.2.2.1,Bool.or_true]
 have sb:W.Looks (model prog w) h (isInstance (.ref x) (.type "object")) true:=I.type.andThen (W.looks_mroIn X (by unfold W.mroIn; rw [hcd,Option.bind_some,if_neg (by rw [hm]; simp),ob]))
 refine codeAny_call_builtin SF.slot.plain SF.entry (@W.check_slot (model prog w) _ _ ⟨h,g,d,t,os⟩ "object.__setattr__" "object" "__setattr__" (.ref x) [.str name tk,v] [] _ SF.kind SF.split sb (SF.args (.ref x) (.str name tk) v) ?_)
 have mr:W.Looks (model prog w) h (mroOf (.ref C)) cd.mro:=(W.looks_clsIn X hcd).andThen .now
 have L3:W.Looks (model prog w) h (storeTaker? none) none:=.now
 have cl:W.Looks (model prog w) h (classData C) cd:=W.looks_clsIn X hcd
 rw [W.osa_eq,refuse_eq]
 refine wpAny_bind (wpAny_bind (I.type.at (wpAny_bind (mr.at ?_))))
 rw [hm,refuseLoop_ref,zA _ m]
 refine wpAny_pure (wpAny_bind (I.type.at (wpAny_bind ((W.looks_findIn X ha).at (wpAny_bind (L3.at ?_))))))
 show wpAny _ _ (storeInOwnDict (.ref x) (.ref C) (.str name tk) name v false) _ _ _
 obtain ⟨nm,bs,mro,ns,qn,hd,sn,sb,ab,col,del⟩:=cd
 (dsimp only at hh; subst hh; unfold storeInOwnDict ownDictForStores)
 repeat (first
  | with_reducible refine store_in_new ?_ ?_
  | with_reducible refine wpAny_loadPart_at hx ?_
  | with_reducible refine cl.at ?_
  | wp_step)
 ·exact ⟨_,#[],_,(Heap.get?_update_ne _ _ _ _ hxs.symm).trans (Heap.get?_push_at rfl rfl),rfl,fun e he=>absurd he (by simp),fun _=>rfl⟩
 ·intro h' tk' hn' hs
  have hx1:(h.push { cls:=.type "dict",data:=.dict #[] }).get? x=some { cls:=.ref C,data:=.fields fv }:=Heap.get?_push_of_some _ hx
  refine hq h' tk' h.objs.size (fun b o hb ho=>(hs.2 b (Nat.ne_of_lt (Heap.lt_size ho))).trans ((Heap.get?_update_ne _ _ _ _ hb).trans (Heap.get?_push_of_some _ ho))) (Nat.le_refl _) hxs.symm ((hs.2 x hxs).trans (Heap.get?_update_self _ hx1 rfl)) hn'
end
end tG
end PySem
namespace Mir
open PySem PySem.Spec PyProof.Rows L2 PySem.tG
structure qO (K:PySem.W.Frag) (C:Addr):Prop where
 cls:∃ nm q N bs bm sn sub ab col dd k0 k1 k2 k3 k5,K.lookup C=some (u9 nm q C N bs bm true sn sub ab col dd k0 k1 k2 k3 k5)∧eV bm=true
 sa:PySem.W.findIn K (.ref C) "__setattr__" = some (some (.builtin "object.__setattr__"))
 exC:PySem.W.subIn K (.ref C) (.type "BaseException")=some true
 tyC:PySem.W.typeIn K (.ref C)=some (.type "type")
 kC:PySem.W.keepIn K (.ref C)=true
section
variable {X:Cx} {pins:List (Addr × Obj)} {σ:L2.St} {H:Hp} {s:Shared} {a C:Addr} {f:Str} {y:V} {u:Value} {Q:Unit→Shared→Prop} {E:Value→Shared→Prop} {A:Around}
theorem xO (T:qO X.K C) (I:Inv X pins σ H s) (e:H a=some (exo a C none)) (hno:PySem.W.findIn X.K (.ref C) f=some none) (ry:RelV y u)
  (h:∀ dx s',H dx=none→dx≠a→Inv X pins σ (upd (upd H dx (exd dx [(f,y)])) a (exo a C (some dx))) s'→Q () s'):wpAny (model X.prog X.w) A (setAttr (.ref a) f u) Q E s:=by
 obtain ⟨nm,q,N,bs,bm,sn,sub,ab,col,dd,k0,k1,k2,k3,k5,hC,hbm⟩:=T.cls
 have hcl:PySem.W.clsIn X.K C=some { name:=nm,bases:=bs,mro:=.ref C :: bm,ns:=N,qualname:=q,hasDict:=true,slotNames:=sn,subclasses:=sub,abstract:=ab,collection:=col,hasDel:=false }:=by
  unfold PySem.W.clsIn
  rw [hC] <;> rfl
 obtain ⟨t1,ho⟩:=exo_at I.hok e
 obtain ⟨hp,g,d,t,os⟩:=s
 refine PySem.W.set_plain I.kIn (od:=none) (ox:={ cls:=.ref C,dict:=none,data:=.fields #[.ref t1,.none,.none,.none,.bool false,.none] }) ⟨ho,rfl,rfl,trivial⟩ T.sa ?_
 refine Bl I.kIn ho hcl rfl hbm rfl hno fun h' tk' dx k dn dne hx hn=>?_
 have n1:H dx=none:=I.hok.fresh dn
 have n2:∀ {b:Addr} {o:Obj},hp.get? b=some o→b≠dx:=fun {b o} z=>Nat.ne_of_lt (Nat.lt_of_lt_of_le (Heap.lt_size z) dn)
 have n3:∀ {b:Addr},H b=none→b≠a:=fun {b} n z=>by
  rw [z,e] at n; cases n
 have U:Un X.fs [] H (upd (upd H dx (exd dx [(f,y)])) a (exo a C (some dx))) hp h' :=
  ⟨fun b o z n _ _=>k b o (n3 n) z,fun b o z n _ _=>⟨o.slots,k b o (n3 n) z⟩,fun b o z n _=>by rw [upd_ne (n3 n),upd_ne (n2 z)]; exact n,
   fun b o z _=>by
    by_cases hb:b=a
    ·exact ⟨_,by rw [hb]; exact hx⟩
    ·exact ⟨o,k b o hb z⟩,
   fun b xs z=>by rw [upd_ne (at_ne e z exo_tup),upd_ne (ne_of_none z n1)]; exact z,
   fun b o v z=>by rw [upd_ne (at_ne e z exo_frz),upd_ne (ne_of_none z n1)]; exact z,
   fun b ps z=>⟨#[],by rw [upd_ne (at_ne e z exo_tbl),upd_ne (ne_of_none z n1),z]; simp⟩⟩
 refine h dx _ n1 dne (I.un (t':=tk') U fun b o z=>?_)
 by_cases hb:b=a
 ·subst hb; rw [upd_same] at z; cases z; exact exo_ok hx
 ·rw [upd_ne hb] at z
  by_cases hd:b=dx
  ·subst hd; rw [upd_same] at z; cases z; exact exd_ok hn (relO_put (fs:=[]) ry fun g=>True.intro)
  ·rw [upd_ne hd] at z
   refine (I.hok b o z).stay (fun c v hc w=>k c v ?_ w) (fun c hc=>by rw [upd_ne (at_ne e hc exo_own),upd_ne (ne_of_none hc n1)]; exact hc) fun c xs hc=>by rw [upd_ne (at_ne e hc exo_tup),upd_ne (ne_of_none hc n1)]; exact hc
   rcases hc with hc | hc
   ·rw [hc]; exact hb
   ·exact at_ne e hc exo_own
end
def CN (K:PySem.W.Frag) (f:Str) (to te:TE):TS:=fun D σ H=>te σ H fun y H1=>to σ H1 fun x H2=>∃ a C:Addr,x = .ref a∧qO K C∧PySem.W.findIn K (.ref C) f=some none ∧
 (H2 a=some (exo a C none)∧∀ dx,H2 dx=none→dx≠a→D.nx σ (upd (upd H2 dx (exd dx [(f,y)])) a (exo a C (some dx))))
theorem zF {X:Cx} {o e:Expr} {to te:TE} {f:Str} {p' pos:Pos} (ho:PE X o to) (he:PE X e te) (hs:swapsWith e (some (.Attribute o f p')) pos.line X.env=pure false:=by rfl):PS X (.Assign [.Attribute o f p'] e pos) (CN X.K f to te):=by
 refine ⟨fun pins s σ H D I h=>?_⟩
 refine plainObj_wpAny_Assign_Attribute (thn (he.run pins s σ H _ I h) fun v s1 ⟨y,H1,I1,r1,q1⟩=>thn (ho.run pins s1 σ H1 _ I1 q1) fun u s2 hz=>?_) hs
 obtain ⟨x,H2,I2,r2,a,C,rfl,T,hno,ea,q⟩:=hz
 obtain rfl:u=Value.ref a:=r2
 exact xO T I2 ea hno r1 fun dx s' n ne J=>⟨σ,_,J,q dx n ne⟩
theorem tH {X:Cx} {CX:CXT} {x:Str} {C fI:Addr} {k:Nat} {fd:FuncData} {ps:List Str} {sp:L2.Sp} {e:Expr} {ta:TA} {p pos:Pos} (T:qO X.K C) (iC:PySem.W.findIn X.K (.ref C) "__init__" = some (some (.ref fI))) (tI:PySem.W.typeIn X.K (.ref fI)=some (.type "function"))
  (F1:FnOk X.prog X.w X.K X.mg X.base CX k fI fd ps sp) (hr:Room (k+1) X.A) (hb:Binds X.K fd ps []) (hx:Passes CX X (fun _ _ _=>False)) (hg:Gl X x) (hm:X.mg x=some (.ref C)) (ha:PA X [e] ta)
  (hdb:(x == ("__debug__" : Str))=false:=by decide) (he:starEach [e] X.env=(false,eval e X.env) :: starEach [] X.env:=by rfl) (hpl:(backTo pos (starEach [] X.env)).any (·.1)=false:=by rfl) :
  PMk X (.Call (.Name x p) [e] [] pos) (tMkO C sp [] ta):=by
 intro pins s σ H Q I h
 obtain ⟨nm,q,N,bs,bm,sn,sub,ab,col,dd,k0,k1,k2,k3,k5,hC,hbm⟩:=T.cls
 refine wpAny_Call_Name_kw (ld_glob I hg hm ?_ hdb)
 refine PySem.W.callWith_K (h₀:=X.base) I.ok.mod.kin T.kC (thn (ha.run pos pins s σ H _ I h) fun us s1 hz=>?_) he hpl
 obtain ⟨vs,H1,I1,r1,hz,q1⟩:=hz
 refine ⟨I1.kIn,?_⟩
 show wpAny _ _ (call (.ref C) us) _ _ _
 obtain ⟨hp,g,dr,tk,os⟩:=s1
 have n1:H1 (hp.objs.size+1)=none:=I1.hok.fresh (Nat.le_succ _)
 have hq:=q1 (hp.objs.size+1) n1
 rw [List.append_nil] at hq
 have kk:∀ b o,hp.get? b=some o→((hp.push (PySem.W.kdv_tup us)).push (PySem.HandSPX.excO C hp.objs.size)).get? b=some o:=fun b o z=>Heap.get?_push_of_some _ (Heap.get?_push_of_some _ z)
 have gt:((hp.push (PySem.W.kdv_tup us)).push (PySem.HandSPX.excO C hp.objs.size)).get? (hp.objs.size+1)=some (PySem.HandSPX.excO C hp.objs.size):=by heap_get
 have I2:Inv X pins σ (upd H1 (hp.objs.size+1) (exo (hp.objs.size+1) C none)) ⟨(hp.push (PySem.W.kdv_tup us)).push (PySem.HandSPX.excO C hp.objs.size),g,dr,tk,os⟩ :=
  I1.laid (a:=hp.objs.size+1) (o:=exo (hp.objs.size+1) C none) (t':=tk) (h':=(hp.push (PySem.W.kdv_tup us)).push (PySem.HandSPX.excO C hp.objs.size)) kk (Nat.le_succ _) (exo_ok gt)
 have r2:Vals (V.ref (hp.objs.size+1) :: vs) (Value.ref (hp.objs.size+1) :: us):=.cons rfl r1
 have hl:(Value.ref (hp.objs.size+1) :: us++[]).length=ps.length:=by
  rw [List.append_nil]
  have z:=r2.length
  rw [F1.len _ _ _ _ hq] at z
  exact z.symm
 have hus:us.length≤sizeLine:=by
  rw [← Paired.length r1,sizeLine_eq]; omega
 have hbb:=hb _ (Value.ref (hp.objs.size+1) :: us) I2.kIn hl
 rw [List.append_nil] at hbb
 refine wpAny_call (zE hbm (I1.kIn _ _ hC) (PySem.W.looks_findIn I1.kIn iC) (fun self=>PySem.W.bind_fn I1.kIn self tI) hus (codeAny_mono (F1.run _ X.stack _ _ ⟨Value.ref (hp.objs.size+1) :: us,[]⟩ (Value.ref (hp.objs.size+1) :: us) _ _ (fun _ _ _=>False) (hr.make C us []) (I2.env0.make C us []) hbb r2 hq) fun r s' hq'=>?_))
 cases r with
 | error er=>exact hx pins σ _ _ er s' I2 hq'
 | ok fl =>
  cases fl with
  | ret u =>
   obtain ⟨v,H2,os2,bare2,un2,hok2,rv,ev,d,fs,ea,ed,hd1,q2⟩:=hq'
   subst ev
   obtain ⟨h2,g2,d2,t2,os'⟩:=s'
   exact ⟨rv,mk_end (raises_own T.exC T.tyC) I1 (Nat.le_succ _) kk un2 hok2 os2 bare2 ea ed hd1 q2⟩
  | next=>exact False.elim hq'
  | brk=>exact False.elim hq'
  | cont=>exact False.elim hq'
def iV (K:PySem.W.Frag) (f:Str):L2.Sp:=fun vs H Q E=>∃ (a C:Addr) (y:V),vs=[.ref a,y]∧qO K C∧PySem.W.findIn K (.ref C) f=some none∧H a=some (exo a C none)∧∀ dx,H dx=none→dx≠a→Q .non (upd (upd H dx (exd dx [(f,y)])) a (exo a C (some dx)))
theorem qP {P:Program} {w:World} {K:PySem.W.Frag} {mg:Str→Option Value} {base:Heap} {x qual:Str} {params:Arguments} {scope:Scope} {fI:Addr} {fd:FuncData} {sf pr f:Str} {p1 p2 p3 p4:Pos}
  (F:FunD K x qual params [.Assign [.Attribute (.Name sf p1) f p2] (.Name pr p3) p4] scope [] [] fI fd) (S:FnScope [sf,pr] [sf,pr] scope) (v1:Vis scope sf) (v2:Vis scope pr)
  (d1:(sf == ("__debug__" : Str))=false) (d2:(pr == ("__debug__" : Str))=false) (d3:(sf == ("__classdict__" : Str))=false) (d4:(pr == ("__classdict__" : Str))=false) :
  FnOk P w K mg base (L2.CX P w) 1 fI fd [sf,pr] (iV K f):=by
 refine F.ok (k:=0) S (fun vs H Q E h=>?_) (fun cdv A outer s H vs Q E hr h=>?_)
 ·obtain ⟨a,C,y,rfl,_⟩:=h; rfl
 ·obtain ⟨a,C,y,rfl,T,hf,ha,q⟩:=h
  refine ⟨_,pss_one (zF (pe_var (i:=0) rfl v1 d1 d3) (pe_var (i:=1) rfl v2 d2 d4)),?_⟩
  refine ⟨y,rfl,.ref a,rfl,a,C,rfl,T,hf,ha,fun dx n ne=>?_⟩
  exact q dx n ne
structure qQ (P:Program) (w:World) (K:PySem.W.Frag) (mg:Str→Option Value) (base:Heap) (c f:Str):Prop where
 ex:∃ (C fI:Addr) (fd:FuncData) (ps:List Str),PySem.W.nsIn K mainGlobals c=some (some (.ref C))∧mg c=some (.ref C)∧qO K C∧PySem.W.findIn K (.ref C) "__init__" = some (some (.ref fI))∧PySem.W.typeIn K (.ref fI)=some (.type "function") ∧
  PySem.W.findIn K (.ref C) f=some none∧FnOk P w K mg base (L2.CX P w) 1 fI fd ps (iV K f)∧Binds K fd ps []
end Mir
namespace Mir
open PySem PySem.Spec PyProof.Rows L2
theorem qR {X:Cx} {e:Expr} {t:L2.St→Hp→XK→Prop} (h:PMk X e t):PE X e (fun σ H Q=>t σ H fun cls d H1=>∀ a,H1 a=none→Q (.ref a) (upd H1 a (eZ a cls d))):=by
 refine ⟨fun pins s σ H Q I z=>wpAny_mono (h pins s σ H _ I z) (fun u s1 hu=>?_) fun _ _ x=>x⟩
 obtain ⟨a,oe,vs,sI,H1,cls,d,rfl,J,k,ge,he,hz,hd,_,na,os,bare,_,q⟩:=hu
 have J2:Inv X pins σ (upd H1 a (eZ a cls d)) { sI with heap:=s1.heap,toks:=s1.toks }:=J.laidN k ge na (nZ he hz hd)
 exact ⟨.ref a,_,⟨J2.ok,os.trans J2.os,bare,J2.base,J2.loc,J2.cell,J2.free,J2.freeC,J2.pin,J2.hok,J2.len⟩,rfl,q a na⟩
def lu (c f:Str) (m:M D):M D:=bnd m fun d=>opt (some (.exn c [f] [d]))
def qT (c:Str):M D:=opt (some (.exn c [] []))
theorem oF {K:PySem.W.Frag} {mg:Str→Option Value} {w1:Wd} (ok:w1.Ok) {f c:Str} {C a dx:Addr} {v:V} {d:D} (h1:PySem.W.nsIn K mainGlobals c=some (some (.ref C))) (na:w1.H a=none) (ne:dx≠a) (ndx:w1.H dx=none) (r1:Rep K w1 d v) :
  upd (del (upd (upd (upd w1.H a (exo a C none)) dx (exd dx [(f,v)])) a (exo a C (some dx))) a) dx (.xd [(f,v)])=upd w1.H dx (.xd [(f,v)]) ∧
   XR K mg { w1 with H:=upd w1.H dx (.xd [(f,v)]),F:=fun b=>w1.F b∨b=dx } c [(f,d)] (.ref C) (some dx):=by
 constructor
 ·funext b
  by_cases hb:b=dx
  ·rw [hb,upd_same,upd_same]
  ·rw [upd_ne hb,upd_ne hb]
   by_cases hba:b=a
   ·rw [hba,del_same,na]
   ·rw [del_ne hba,upd_ne hba,upd_ne hb,upd_ne hba]
 ·have al:=Al.frozen ok ndx (.xd [(f,v)])
  exact ⟨⟨C,h1,rfl⟩,.inr ⟨by simp,dx,[v],rfl,upd_same,.inr rfl,ak.cons (Rep.mono al.keep ok _ _ r1) ak.nil⟩⟩
section
variable {X:Cf} {ks:List Nat}
theorem lJ {k:Nat} {c f:Str} {e:Expr} {m:M D} {p pos:Pos} (h:kZ X.X.prog X.X.w X.K X.mg X.X.base c f) (hr:Room k X.A) (hk:2≤k) (hg:∀ j,(X.env j).kindOf c=some .globalImplicit) (he:PM X e m) (hdb:(c == ("__debug__" : Str))=false:=by decide)
  (hs:∀ j,starEach [e] (X.env j)=(false,eval e (X.env j)) :: starEach [] (X.env j):=by intro _; rfl):PM X (.Call (.Name c p) [e] [] pos) (lu c f m):=by
 obtain ⟨C,fI,fd,ps,h1,h2,T,h3,h4,h5,F1,hb⟩:=h.ex
 obtain ⟨t,q,s⟩:=he.ex
 refine ⟨fun W=>fun σ H Q=>tMkO C (jE X.K f) [] (tCons (t W) tNil) σ H fun cls d H'=>∀ a,H' a=none→Q (.ref a) (upd H' a (eZ a cls d)),fun j pn xe W tk pw=>qR (pmk_oex (X:=X.at j pn xe) T h3 h4 F1 (hr.mono hk) hb .nil (passes_call tk fun _ _ _ _ z=>z.elim) (hg j) h2 (pa_cons (q j pn xe W tk pw) pa_nil (hs j)) hdb (hs j)),fun W=>?_⟩
 refine (s W).bnd (k:=fun x σ H Q=>([x]:List V).length≤1000∧∀ a,H a=none→jE X.K f (.ref a :: ([x]++[])) (upd H a (exo a C none)) (fun v H2=>v = .non∧∃ (d:Addr) (fs:List (Str × V)),H2 a=some (exo a C (some d))∧H2 d=some (exd d fs)∧H d=none∧∀ b,(upd (del H2 a) d (.xd fs)) b=none→Q (V.ref b) (upd (upd (del H2 a) d (.xd fs)) b (eZ b (.ref C) (some d)))) (fun _ _ _=>False)) fun σ w w1 sm1 d v ok g1 s1 r1=>?_
 refine aD.opt s1 fun z hz Q q=>?_
 cases hz
 refine ⟨by simp,fun a na=>⟨a,C,v,rfl,T,h5,upd_same,fun dx ndx ne=>⟨rfl,dx,[(f,v)],upd_same,?_,?_,?_⟩⟩⟩
 ·rw [upd_ne ne]; exact upd_same
 ·rw [upd_ne ne] at ndx; exact ndx
 ·have ndx' : w1.H dx=none:=by rw [upd_ne ne] at ndx; exact ndx
  obtain ⟨eH,xr⟩:=oF (mg:=X.mg) (f:=f) s1.ok h1 na ne ndx' r1
  rw [eH]
  intro b nb
  have al:=Al.frozen s1.ok ndx' (.xd [(f,v)])
  exact q _ _ (al.trans (Al.frozen al.ok nb (eZ b (.ref C) (some dx)))) (lG (X:=X) al.ok xr nb)
theorem tK {k:Nat} {c f:Str} {e:Expr} {m:M D} {p pos:Pos} (h:qQ X.X.prog X.X.w X.K X.mg X.X.base c f) (hr:Room k X.A) (hk:2≤k) (hg:∀ j,(X.env j).kindOf c=some .globalImplicit) (he:PM X e m) (hdb:(c == ("__debug__" : Str))=false:=by decide)
  (hs:∀ j,starEach [e] (X.env j)=(false,eval e (X.env j)) :: starEach [] (X.env j):=by intro _; rfl):PM X (.Call (.Name c p) [e] [] pos) (lu c f m):=by
 obtain ⟨C,fI,fd,ps,h1,h2,T,h3,h4,h5,F1,hb⟩:=h.ex
 obtain ⟨t,q,s⟩:=he.ex
 refine ⟨fun W=>fun σ H Q=>tMkO C (iV X.K f) [] (tCons (t W) tNil) σ H fun cls d H'=>∀ a,H' a=none→Q (.ref a) (upd H' a (eZ a cls d)),fun j pn xe W tk pw=>qR (tH (X:=X.at j pn xe) T h3 h4 F1 (hr.mono hk) hb (passes_call tk fun _ _ _ _ z=>z.elim) (hg j) h2 (pa_cons (q j pn xe W tk pw) pa_nil (hs j)) hdb (hs j)),fun W=>?_⟩
 refine (s W).bnd (k:=fun x σ H Q=>([x]:List V).length≤1000∧∀ a,H a=none→iV X.K f (.ref a :: ([x]++[])) (upd H a (exo a C none)) (fun v H2=>v = .non∧∃ (d:Addr) (fs:List (Str × V)),H2 a=some (exo a C (some d))∧H2 d=some (exd d fs)∧H d=none∧∀ b,(upd (del H2 a) d (.xd fs)) b=none→Q (V.ref b) (upd (upd (del H2 a) d (.xd fs)) b (eZ b (.ref C) (some d)))) (fun _ _ _=>False)) fun σ w w1 sm1 d v ok g1 s1 r1=>?_
 refine aD.opt s1 fun z hz Q q=>?_
 cases hz
 refine ⟨by simp,fun a na=>⟨a,C,v,rfl,T,h5,upd_same,fun dx ndx ne=>⟨rfl,dx,[(f,v)],upd_same,?_,?_,?_⟩⟩⟩
 ·rw [upd_ne ne]; exact upd_same
 ·rw [upd_ne ne] at ndx; exact ndx
 ·have ndx' : w1.H dx=none:=by rw [upd_ne ne] at ndx; exact ndx
  obtain ⟨eH,xr⟩:=oF (mg:=X.mg) (f:=f) s1.ok h1 na ne ndx' r1
  rw [eH]
  intro b nb
  have al:=Al.frozen s1.ok ndx' (.xd [(f,v)])
  exact q _ _ (al.trans (Al.frozen al.ok nb (eZ b (.ref C) (some dx)))) (lG (X:=X) al.ok xr nb)
theorem lK {c:Str} {p pos:Pos} (h:kY X.K X.mg c) (hg:∀ j,(X.env j).kindOf c=some .globalImplicit) (hdb:(c == ("__debug__" : Str))=false:=by decide):PM X (.Call (.Name c p) [] [] pos) (qT c):=by
 obtain ⟨C,bmB,B,newId,initId,h1,h2,F,h3,h4,h5,h6⟩:=h.ex
 refine ⟨fun W=>fun σ H Q=>∀ a,H a=none→Q (.ref a) (upd H a (eZ a (.ref C) none)),fun j pn xe W tk pw=>qR (qI (X:=X.at j pn xe) F h3 h2 h4 (raises_own h5 h6) (hg j) hdb),fun W σ w sm hs=>?_⟩
 refine aD.opt hs fun z hz Q q=>?_
 cases hz
 intro a na
 exact q _ _ (Al.frozen hs.ok na _) (lG (X:=X) (fs:=[]) hs.ok (show XR X.K X.mg w c [] (.ref C) none from ⟨⟨C,h1,rfl⟩,.inl ⟨rfl,rfl⟩⟩) na)
theorem vf {k:Nat} {c f:Str} {e:Expr} {m:M D} {p pos pos' : Pos} (h:qQ X.X.prog X.X.w X.K X.mg X.X.base c f) (hc:X.calm=true) (hr:Room k X.A) (hk:2≤k) (hg:∀ j,(X.env j).kindOf c=some .globalImplicit) (he:PM X e m) (hdb:(c == ("__debug__" : Str))=false:=by decide)
  (hs:∀ j,starEach [e] (X.env j)=(false,eval e (X.env j)) :: starEach [] (X.env j):=by intro _; rfl):jo X ks (.Raise (some (.Call (.Name c p) [e] [] pos)) none pos') (lF c f m):=by
 obtain ⟨C,fI,fd,ps,h1,h2,T,h3,h4,h5,F1,hb⟩:=h.ex
 obtain ⟨t,q,s⟩:=he.ex
 refine ⟨fun W=>fun _ σ H=>tMkO C (iV X.K f) [] (tCons (t W) tNil) σ H fun cls d H'=>W cls d σ H',fun j pn xe W tk pw=>ps_raise (X:=X.at j pn xe) hc tk (tH (X:=X.at j pn xe) T h3 h4 F1 (hr.mono hk) hb (passes_call tk fun _ _ _ _ z=>z.elim) (hg j) h2 (pa_cons (q j pn xe W tk pw) pa_nil (hs j)) hdb (hs j)),fun W σ w sm hs=>?_⟩
 refine (s W σ w sm hs).st (kb:=fun x H D=>([x]:List V).length≤1000∧∀ a,H a=none→iV X.K f (.ref a :: ([x]++[])) (upd H a (exo a C none)) (fun v H2=>v = .non∧∃ (d:Addr) (fs:List (Str × V)),H2 a=some (exo a C (some d))∧H2 d=some (exd d fs)∧H d=none∧W (.ref C) (some d) σ (upd (del H2 a) d (.xd fs))) (fun _ _ _=>False)) fun w1 sm1 d v g1 s1 r1=>?_
 intro e D
 refine ⟨by simp,fun a na=>⟨a,C,v,rfl,T,h5,upd_same,fun dx ndx ne=>⟨rfl,dx,[(f,v)],upd_same,?_,?_,?_⟩⟩⟩
 ·rw [upd_ne ne]; exact upd_same
 ·rw [upd_ne ne] at ndx; exact ndx
 ·have ndx' : w1.H dx=none:=by rw [upd_ne ne] at ndx; exact ndx
  obtain ⟨eH,xr⟩:=oF (mg:=X.mg) (f:=f) s1.ok h1 na ne ndx' r1
  rw [eH]
  have al:=Al.frozen s1.ok ndx' (.xd [(f,v)])
  exact e σ _ (.ref C) (some dx) al.gr (s1.al al) KS.refl xr
end
def Bm:V→Option Str
 | .non=>some "None"
 | .bl b=>some (if b then "True" else "False")
 | .int i=>if i.natAbs.log2 < 1920 then some (Str.ofString (toString i)) else none
 | .str x=>if (reprText x).length≤1000000 then some (reprText x) else none
 | _=>none
def vg (K:PySem.W.Frag):List V→Hp→VK→Prop:=fun xs H Q=>(∃ v t,xs=[v]∧Bm v=some t∧Q (.str t) H)∨qL K xs H Q
theorem iJ {X:Cx} (hg:X.A.guards=some []) (hu:X.A.units+64 < cLine):CallR X (.builtin "repr") (vg X.K):=by
 intro pins s σ H vs us Q I r h
 rcases h with ⟨v,t,rfl,e,q⟩ | h
 ·obtain ⟨u,rfl,ru⟩:=vals1 r
  have fin:∀ tk tk',(fun (v' : Value) (s' : Shared)=>∃ (w:V) (H' : Hp),Inv X pins σ H' s'∧RelV w v'∧Q w H') (.str t tk) { s with toks:=tk' }:=fun tk tk'=>⟨.str t,H,I.kept (h':=s.heap) (fun _ _ e=>e),⟨_,rfl⟩,q⟩
  cases v with
  | non =>
   obtain rfl:u=Value.none:=ru
   cases e
   exact PySem.P.repr_of_none (fin _ _)
  | bl b =>
   obtain rfl:u=Value.bool b:=ru
   cases e
   exact PySem.P.repr_of_bool (fin _ _)
  | int i =>
   obtain ⟨tk,rfl⟩:=ru
   have e:(if i.natAbs.log2 < 1920 then some (Str.ofString (toString i)) else none)=some t:=e
   split at e
   ·rename_i hl
    cases e
    exact PySem.P.repr_of_int hl (fin _ _)
   ·cases e
  | str x =>
   obtain ⟨tk,rfl⟩:=ru
   have e:(if (reprText x).length≤1000000 then some (reprText x) else none)=some t:=e
   split at e
   ·rename_i hl
    cases e
    exact PySem.P.repr_of_str (fin _ _) (by rw [sizeLine_eq]; omega)
   ·cases e
  | _=>cases e
 ·exact uo hg hu pins s σ H vs us Q I r h
def D.jT:D→Option D
 | .non=>some (.str "None")
 | .bl b=>some (.str (if b then "True" else "False"))
 | .int i=>if i.natAbs.log2 < 1920 then some (.str (Str.ofString (toString i))) else none
 | .str x=>if (reprText x).length≤1000000 then some (.str (reprText x)) else none
 | d=>d.m9
theorem jU (K:PySem.W.Frag):oZ K (vg K) D.jT:=by
 intro w x vx z ok rx h Q q
 cases x with
 | non =>
  cases h
  have e:vx = .non:=rx
  subst e
  exact .inl ⟨.non,_,rfl,rfl,q _ w (Al.refl ok) fB⟩
 | bl b =>
  cases h
  have e:vx = .bl b:=rx
  subst e
  exact .inl ⟨.bl b,_,rfl,rfl,q _ w (Al.refl ok) fB⟩
 | int i =>
  have e:vx = .int i:=rx
  subst e
  have h:(if i.natAbs.log2 < 1920 then some (D.str (Str.ofString (toString i))) else none)=some z:=h
  split at h
  ·rename_i hl
   cases h
   exact .inl ⟨.int i,Str.ofString (toString i),rfl,(if_pos hl:(if i.natAbs.log2 < 1920 then some (Str.ofString (toString i)) else none)=_),q _ w (Al.refl ok) fB⟩
  ·cases h
 | str s =>
  have e:vx = .str s:=rx
  subst e
  have h:(if (reprText s).length≤1000000 then some (D.str (reprText s)) else none)=some z:=h
  split at h
  ·rename_i hl
   cases h
   exact .inl ⟨.str s,reprText s,rfl,(if_pos hl:(if (reprText s).length≤1000000 then some (reprText s) else none)=_),q _ w (Al.refl ok) fB⟩
  ·cases h
 | _=>exact .inr (v5 K w _ vx z ok rx h Q q)
section
variable {α β:Type} {Q:α→Sg→Prop} {X:Str→List (Str × D)→Sg→Prop} {s:Sg}
def Wp (r:R α) (Q:α→Sg→Prop) (X:Str→List (Str × D)→Sg→Prop):Prop:=match r with
 | .ok a s=>Q a s
 | .exc c fs s=>X c fs s
 | .fail=>False
theorem Wp.mono {r:R α} {Q' : α→Sg→Prop} {X' : Str→List (Str × D)→Sg→Prop} (h:Wp r Q X) (hq:∀ a s,Q a s→Q' a s) (hx:∀ c fs s,X c fs s→X' c fs s):Wp r Q' X':=by
 cases r with
 | ok a s=>exact hq a s h
 | exc c fs s=>exact hx c fs s h
 | fail=>exact h
theorem Wp.imp {r:R α} {Q' : α→Sg→Prop} (h:Wp r Q X) (hq:∀ a s,Q a s→Q' a s):Wp r Q' X:=h.mono hq fun _ _ _ h=>h
theorem aO {m:M α} {f:α→M β} {Q:β→Sg→Prop} (h:Wp (m s) (fun a s'=>Wp (f a s') Q X) X):Wp (bnd m f s) Q X:=by
 show Wp (bK (m s) f) Q X
 cases hm:m s with
 | ok a s'=>rw [hm] at h; exact h
 | exc c fs s'=>rw [hm] at h; exact h
 | fail=>rw [hm] at h; exact h
theorem Bo {a:α} (h:Q a s):Wp (ret a s) Q X:=h
theorem nj {o:Option α} (h:∃ a,o=some a∧Q a s):Wp (opt o s) Q X:=by
 obtain ⟨a,rfl,h⟩:=h
 exact h
end
section
variable {X:Str→List (Str × D)→Sg→Prop} {s:Sg} {Q:D→Sg→Prop}
theorem CP {f:D→Option D} {a:M D} (h:Wp (a s) (fun x s=>∃ z,f x=some z∧Q z s) X):Wp (m1 f a s) Q X:=aO (h.imp fun _ _ h=>nj h)
theorem CQ {f:D→D→Option D} {a b:M D} (h:Wp (a s) (fun x s=>Wp (b s) (fun y s=>∃ z,f x y=some z∧Q z s) X) X):Wp (m2 f a b s) Q X:=aO (h.imp fun _ _ h=>aO (h.imp fun _ _ h=>nj h))
theorem qU {i:Nat} {t:T} (e:s[i]? = some (some t)) (h:Q (frzT t) s):Wp (aA i s) Q X:=by
 unfold aA
 rw [e]; exact h
theorem w_var {i:Nat} {t:T} (e:s[i]? = some (some t)) (h:Q (frzT t) (s.set i (some (.val (frzT t))))):Wp (aU i s) Q X:=by
 unfold aU
 rw [e]; exact h
theorem zG {i:Nat} {d:D} (e:s[i]? = some (some (.val d))) (h:Q d s):Wp (aU i s) Q X:=by
 unfold aU
 rw [e]
 show Q d (s.set i (some (.val d)))
 rw [set_same e]
 exact h
theorem Bp {f:D→D→Option D} {i:Nat} {b:M D} {t:T} (e:s[i]? = some (some t)) (h:Wp (b s) (fun y s=>Wp (aA i s) (fun x s=>∃ z,f x y=some z∧Q z s) X) X):Wp (aM f i b s) Q X :=
 aO (qU e (aO (h.imp fun _ _ h=>aO (h.imp fun _ _ h=>nj h))))
theorem Bq {m:M T} (h:Wp (m s) (fun t s=>Q (frzT t) s) X):Wp (cW m s) Q X:=aO h
theorem zH {m:M D} {Q:Bool→Sg→Prop} (h:Wp (m s) (fun d s=>∃ b,d = .bl b∧Q b s) X):Wp (bH m s) Q X:=aO (h.imp fun d s h=>by
 obtain ⟨b,rfl,h⟩:=h
 exact h)
theorem w_and {m n:M Bool} {Q:Bool→Sg→Prop} (h:Wp (m s) (fun b s=>(b=true→Wp (n s) Q X)∧(b=false→Q false s)) X):Wp (vK m n s) Q X:=aO (h.imp fun b s h=>by
 cases b with
 | true=>exact h.1 rfl
 | false=>exact h.2 rfl)
theorem w_or {m n:M Bool} {Q:Bool→Sg→Prop} (h:Wp (m s) (fun b s=>(b=true→Q true s)∧(b=false→Wp (n s) Q X)) X):Wp (uJ m n s) Q X:=aO (h.imp fun b s h=>by
 cases b with
 | true=>exact h.1 rfl
 | false=>exact h.2 rfl)
theorem Br {Q:List D→Sg→Prop} (h:Q [] s):Wp (bL s) Q X:=h
theorem zJ {m:M D} {r:M (List D)} {Q:List D→Sg→Prop} (h:Wp (m s) (fun d s=>Wp (r s) (fun ds s=>Q (d :: ds) s) X) X):Wp (aC m r s) Q X:=aO (h.imp fun _ _ h=>aO h)
theorem Bs {m:M (List D)} (h:Wp (m s) (fun ds s=>fits ds.length=true∧Q (.tup ds) s) X):Wp (gq m s) Q X:=aO (h.imp fun ds s h=>nj ⟨_,by rw [if_pos h.1],h.2⟩)
theorem Bt {m:M (List D)} {Q:T→Sg→Prop} (h:Wp (m s) (fun ds s=>fits ds.length=true∧Q (.own ds) s) X):Wp (dR m s) Q X:=aO (h.imp fun ds s h=>nj ⟨_,by rw [if_pos h.1],h.2⟩)
theorem Bu {m:M D} {Q:T→Sg→Prop} (h:Wp (m s) (fun d s=>Q (.val d) s) X):Wp (toT m s) Q X:=aO h
theorem qW {i:Nat} {t:T} {Q:T→Sg→Prop} (e:s[i]? = some (some t)) (h:Q t (if t.owned then s.set i none else s)) (ns:t.jm=false:=by rfl):Wp (gM i s) Q X:=by
 unfold gM
 rw [e]
 cases t with
 | sto d=>cases ns
 | val d=>exact h
 | own xs=>exact h
 | owd kvs=>exact h
theorem zK {m:M D} {Q:List D→Sg→Prop} (h:Wp (m s) (fun d s=>∃ j,d = .int j∧lY j=true∧Q (fM 0 j) s) X):Wp (iT m s) Q X:=aO (h.imp fun d s h=>by
 obtain ⟨j,rfl,hj,h⟩:=h
 show Wp ((if lY j=true then ret (fM 0 j) else stuck) s) Q X
 rw [if_pos hj]; exact h)
theorem zL {Q:List Ar→Sg→Prop} (h:Q [] s):Wp (bM s) Q X:=h
theorem zM {m:M D} {r:M (List Ar)} {Q:List Ar→Sg→Prop} (h:Wp (m s) (fun d s=>Wp (r s) (fun as s=>Q (.dv d :: as) s) X) X):Wp (aVal m r s) Q X:=aO (h.imp fun _ _ h=>aO h)
theorem Bv {i:Nat} {r:M (List Ar)} {t:T} {Q:List Ar→Sg→Prop} (e:s[i]? = some (some t)) (h:Wp (r s) (fun as s=>Q (.io i :: as) s) X):Wp (mX i r s) Q X:=aO (qU e (aO h))
structure Sp (fm:Fn) (ts:List T) (Q:T→Sg→Prop) (X:Str→List (Str × D)→Sg→Prop):Prop where
 out:Wp (fm ts) Q X
theorem w_call {n m:Nat} {gA:List Ar→List Ar→List Ar} {fm:Fn} {ma mk:M (List Ar)} {Q:T→Sg→Prop} (h:Wp (ma s) (fun as s=>Wp (mk s) (fun bs s=>(as.length=n∧bs.length=m)∧dist (gA as bs)=true∧∃ ts,resolve s (gA as bs)=some ts ∧
  Sp fm ts (fun r outs=>Q r (aZ s (gA as bs) outs)) (fun c fs outs=>X c fs (aZ s (gA as bs) outs))) X) X):Wp (cX n m gA fm ma mk s) Q X:=by
 refine aO (h.imp fun as s h=>aO (h.imp fun bs s h=>?_))
 obtain ⟨h1,h2,ts,h3,h4⟩:=h
 rw [if_pos h1]
 unfold mW
 rw [if_pos h2,h3]
 have h4:=h4.out
 show Wp (match fm ts with | .ok r outs=>.ok r (aZ s (gA as bs) outs) | .exc c fs outs=>.exc c fs (aZ s (gA as bs) outs) | .fail=>.fail) Q X
 cases hf:fm ts with
 | ok r outs=>rw [hf] at h4; exact h4
 | exc c fs outs=>rw [hf] at h4; exact h4
 | fail=>rw [hf] at h4; exact h4
theorem nq {ks : List Nat} {n nN : Nat} {b : M Fl} {ts : List T} {Q : T → Sg → Prop} (hl : ts.length = n) (h : Wp (b (ts.map some ++ List.replicate (nN - n) none)) (fun fl s => match fl with
  | .nx=>Q (.val .non) (d7 ks n s)
  | .rt t=>Q t (d7 ks n s)
  | _=>False) (fun c fs s=>X c fs (d7 ks n s))):Sp (fnOf ks n nN b) ts Q X:=by
 refine ⟨?_⟩
 unfold fnOf
 rw [if_pos hl]
 cases hb:b (ts.map some++List.replicate (nN - n) none) with
 | fail=>rw [hb] at h; exact h
 | exc c fs s=>rw [hb] at h; exact h
 | ok fl s =>
  rw [hb] at h
  cases fl with
  | nx=>exact h
  | bk=>exact h
  | ct=>exact h
  | rt t=>exact h
theorem Sp.use {fm:Fn} {ts:List T} {Q Q' : T→Sg→Prop} (h:Sp fm ts Q fun _ _ _=>False) (hq:∀ a s,Q a s→Q' a s):Sp fm ts Q' X:=⟨Wp.mono h.out hq fun _ _ _ z=>z.elim⟩
abbrev FQ:=Fl→Sg→Prop
theorem Bw {m n:M Fl} {Q:FQ} (h:Wp (m s) (fun fl s=>match fl with | .nx=>Wp (n s) Q X | fl=>Q fl s) X):Wp (aJ m n s) Q X:=aO (h.imp fun fl s h=>by
 cases fl with
 | nx=>exact h
 | bk=>exact h
 | ct=>exact h
 | rt t=>exact h)
theorem zN {Q:FQ} (h:Q .nx s):Wp (eY s) Q X:=h
theorem Bx {t:M Bool} {m n:M Fl} {Q:FQ} (h:Wp (t s) (fun b s=>(b=true→Wp (m s) Q X)∧(b=false→Wp (n s) Q X)) X):Wp (gU t m n s) Q X:=aO (h.imp fun b s h=>by
 cases b with
 | true=>exact h.1 rfl
 | false=>exact h.2 rfl)
theorem BJ {i:Nat} {m:M T} {Q:FQ} (h:Wp (m s) (fun t s=>Q .nx (s.set i (some t))) X):Wp (bh i m s) Q X:=aO h
theorem zP {m:M T} {Q:FQ} (h:Wp (m s) (fun t s=>Q (.rt t) s) X):Wp (cG m s) Q X:=aO h
theorem BK {i:Nat} {mk me:M D} {Q:FQ} (h:Wp (me s) (fun d s=>Wp (aA i s) (fun _ s=>Wp (mk s) (fun k s=>∃ t t',s[i]? = some (some t)∧g8 t k d=some t'∧Q .nx (s.set i (some t'))) X) X) X):Wp (ig i mk me s) Q X :=
 aO (h.imp fun d s h=>aO (h.imp fun _ s h=>aO (h.imp fun k s h=>by
  obtain ⟨t,t',e1,e2,h⟩:=h
  unfold kJ
  rw [e1]
  dsimp only
  rw [e2]
  exact h)))
theorem BL {a:GA} {m:M D} {Q:FQ} (h:Wp (m s) (fun d s=>∃ s',a d s=some s'∧Q .nx s') X):Wp (tY a m s) Q X:=aO (h.imp fun d s h=>by
 obtain ⟨s',e,h⟩:=h
 refine aO ?_
 unfold kW
 rw [e]
 exact h)
theorem BP {mi : M (List D)} {a : GA} {m : M Fl} {Q : FQ} (h : Wp (mi s) (fun ds s => ∃ I : Nat → Sg → Prop, I 0 s ∧ (∀ k d s, ds[k]? = some d → I k s → ∃ s', a d s = some s' ∧ Wp (m s') (fun fl s => match fl with
  | .nx=>I (k+1) s
  | .ct=>I (k+1) s
  | .bk=>Q .nx s
  | .rt r=>Q (.rt r) s) X)∧∀ s,I ds.length s→Q .nx s) X):Wp (qC mi a m s) Q X:=by
 refine aO (h.imp fun ds s h=>?_)
 obtain ⟨I,h0,hs,hd⟩:=h
 have main:∀ (es:List D) (k:Nat) (s:Sg),(∀ j d,es[j]? = some d→ds[k+j]? = some d)→k+es.length=ds.length→I k s→Wp (dD a m es s) Q X:=fun es=>by
  induction es with
  | nil =>
   intro k s _ hl hk
   have:k=ds.length:=by simpa using hl
   exact hd s (this ▸ hk)
  | cons d es ih =>
   intro k s hg hl hk
   obtain ⟨s',e,hw⟩:=hs k d s (by simpa using hg 0 d rfl) hk
   refine aO ?_
   unfold kW
   rw [e]
   refine aO (hw.imp fun fl s h=>?_)
   have next:I (k+1) s→Wp (dD a m es s) Q X:=ih (k+1) s (fun j d hj=>by
    have:=hg (j+1) d (by simpa using hj)
    rw [show k+1+j=k+(j+1) by omega]; exact this) (by simp only [List.length_cons] at hl; omega)
   cases fl with
   | nx=>exact next h
   | ct=>exact next h
   | bk=>exact h
   | rt r=>exact h
 exact main ds 0 s (fun j d h=>by simpa using h) (by simp) h0
end
theorem zQ {i j:Int} (h:mQ i j=true):D.mul (.int i) (.int j)=some (.int (i*j)):=if_pos h
theorem xP {i j:Int} (h:pK j=true):D.fdiv (.int i) (.int j)=some (.int (i.fdiv j)):=if_pos h
theorem zR {i j:Int} (h:j≠0):D.mod (.int i) (.int j)=some (.int (i.fmod j)):=if_pos h
theorem zU {i j:Int} (h:0≤j∧j≤1000000∧i.natAbs < 18446744073709551616):D.pow (.int i) (.int j)=some (.int (i ^ j.toNat)):=if_pos h
theorem lM {i j:Int} (h1 : -18446744073709551616 < i) (h2:i < 18446744073709551616):mQ i j=true:=decide_eq_true (.inl ⟨h1,h2⟩)
theorem oG {i j:Int} (h1 : -18446744073709551616 < j) (h2:j < 18446744073709551616):mQ i j=true:=decide_eq_true (.inr (.inl ⟨h1,h2⟩))
theorem oH {j:Int} (h0:j≠0) (h1 : -18446744073709551616 < j) (h2:j < 18446744073709551616):pK j=true:=decide_eq_true ⟨h0,.inl ⟨h1,h2⟩⟩
theorem oJ {n:Nat} (h:n≤16777216):fits n=true:=decide_eq_true h
theorem ux {j:Int} (h1 : -4611686018427387904≤j) (h2:j < 4611686018427387904):lY j=true:=decide_eq_true ⟨by omega,by omega⟩
end Mir
namespace Mir
open PySem PySem.Spec PyProof.Rows L2
theorem fmod_lo {a b:Int} (h:0 < b):0≤a.fmod b:=Int.fmod_nonneg_of_pos a h
theorem fmod_hi {a b:Int} (h:0 < b):a.fmod b < b:=Int.fmod_lt_of_pos a h
theorem vh {α:Type} {xs:List α} {i:Int} (h0:0≤i) (h1:i < xs.length):atI xs i=some (xs[i.toNat]'(by omega)):=by
 unfold atI ixN
 rw [if_pos h0,if_pos (by omega)]
 simp
theorem zV {ns:List Int} {i:Int} (h0:0≤i) (h1:i < ns.length):D.ix (.scr ns) (.int i)=some (.int (ns[i.toNat]'(by omega))):=by
 show (atI ns i).map D.int=_
 rw [vh h0 h1]; rfl
theorem zW {n:Nat} {k:Int} (h0:0≤k) (h1:k < n):ixN n k=some k.toNat:=by
 unfold ixN
 rw [if_pos h0,if_pos h1]
theorem tS {xs:List D} {k:Int} {d:D} (h0:0≤k) (h1:k < xs.length):g8 (.own xs) (.int k) d=some (.own (xs.set k.toNat d)):=by
 show (ixN xs.length k).map _=_
 rw [zW h0 h1]; rfl
theorem zX {x d:D} {r:List D}:g8 (.own (x :: r)) (.int 0) d=some (.own (d :: r)):=tS (by decide) (by simp only [List.length_cons]; omega)
theorem zY {x y d:D} {r:List D}:g8 (.own (x :: y :: r)) (.int 1) d=some (.own (x :: d :: r)):=tS (by decide) (by simp only [List.length_cons]; omega)
theorem z7 {x y z d:D} {r:List D}:g8 (.own (x :: y :: z :: r)) (.int 2) d=some (.own (x :: y :: d :: r)):=tS (by decide) (by simp only [List.length_cons]; omega)
theorem iL {xs:List D} {k:Int} (h0:0≤k) (h1:k < xs.length):D.ix (.lst xs) (.int k)=some (xs[k.toNat]'(by omega)):=vh h0 h1
theorem Ck {x:D} {r:List D}:D.ix (.lst (x :: r)) (.int 0)=some x:=iL (by decide) (by simp only [List.length_cons]; omega)
theorem Cm {x y:D} {r:List D}:D.ix (.lst (x :: y :: r)) (.int 1)=some y:=iL (by decide) (by simp only [List.length_cons]; omega)
theorem Ec {x y z:D} {r:List D}:D.ix (.lst (x :: y :: z :: r)) (.int 2)=some z:=iL (by decide) (by simp only [List.length_cons]; omega)
theorem z8 {x y z v d:D} {r:List D}:g8 (.own (x :: y :: z :: v :: r)) (.int 3) d=some (.own (x :: y :: z :: d :: r)):=tS (by decide) (by simp only [List.length_cons]; omega)
theorem z9 {x y z v u d:D} {r:List D}:g8 (.own (x :: y :: z :: v :: u :: r)) (.int 4) d=some (.own (x :: y :: z :: v :: d :: r)):=tS (by decide) (by simp only [List.length_cons]; omega)
theorem Ed {x y z v:D} {r:List D}:D.ix (.lst (x :: y :: z :: v :: r)) (.int 3)=some v:=iL (by decide) (by simp only [List.length_cons]; omega)
theorem Ef {x y z v u:D} {r:List D}:D.ix (.lst (x :: y :: z :: v :: u :: r)) (.int 4)=some u:=iL (by decide) (by simp only [List.length_cons]; omega)
theorem CT {i j:Int} {c:Prop} [Decidable c]:D.ix (.lst [.int i,.int j]) (.int (if c then 1 else 0))=some (.int (if c then j else i)):=by
 by_cases h:c
 ·rw [if_pos h,if_pos h]; exact Cm
 ·rw [if_neg h,if_neg h]; exact Ck
theorem qX {b:Bool} {A B:Prop} (h1:b=true→A) (h2:b=false→B):(b=true→A)∧(b=false→B):=⟨h1,h2⟩
theorem x1 {α:Type} {f:Option α} {z:α} {Q:α→Prop} (e:f=some z) (h:Q z):∃ z,f=some z∧Q z:=⟨_,e,h⟩
theorem x2 {g:Option (Option T)} {t t' : T} {k d:D} {Q:T→Prop} (e1:g=some (some t)) (e2:g8 t k d=some t') (h:Q t'):∃ t t',g=some (some t)∧g8 t k d=some t'∧Q t':=⟨_,_,e1,e2,h⟩
theorem x3 {b:Bool} {Q:Bool→Prop} (h:Q b):∃ b',D.bl b = .bl b'∧Q b':=⟨_,rfl,h⟩
theorem Aa {b:Int} {Q:Int→Prop} (h:Q b):∃ b',D.int b = .int b'∧Q b':=⟨_,rfl,h⟩
theorem Ab {b:Str} {Q:Str→Prop} (h:Q b):∃ b',D.str b = .str b'∧Q b':=⟨_,rfl,h⟩
theorem Ac {f:Option D} {b:Bool} {A B:Bool→Prop} (e:f=some (.bl b)) (h:A b∧B b):∃ k,f=some (.bl k)∧A k∧B k:=⟨_,e,h⟩
theorem x4 {as bs:List Ar} {n m:Nat} {k:Bool} {r:Option (List T)} {ts:List T} {P:List T→Prop} (e1:as.length=n) (e2:bs.length=m) (e3:k=true) (e4:r=some ts) (h:P ts):(as.length=n∧bs.length=m)∧k=true∧∃ ts,r=some ts∧P ts:=⟨⟨e1,e2⟩,e3,_,e4,h⟩
theorem x5 {j:Int} {Q:Int→Prop} (e:lY j=true) (h:Q j):∃ j',D.int j = .int j'∧lY j' = true∧Q j':=⟨_,rfl,e,h⟩
theorem x8 {d e:D} {Q:D→D→Prop} (h:Q d e):∃ d' e',[d,e]=[d',e']∧Q d' e':=⟨_,_,rfl,h⟩
class Wr {α:Type} (r:R α) (Q:α→Sg→Prop) (X:Str→List (Str × D)→Sg→Prop) (P:outParam Prop):Prop where
 out:P→Wp r Q X
class Ex {α:Type} (o:Option α) (Q:α→Prop) (P:outParam Prop):Prop where
 out:P→∃ z,o=some z∧Q z
section
variable {α:Type} {X:Str→List (Str × D)→Sg→Prop} {s:Sg}
instance Eh {a:α} {Q:α→Sg→Prop}:Wr (ret a s) Q X (Q a s):=⟨fun h=>Bo h⟩
instance FW {f:D→D→Option D} {a b:M D} {Q:D→Sg→Prop}:Wr (m2 f a b s) Q X (Wp (a s) (fun x s=>Wp (b s) (fun y s=>∃ z,f x y=some z∧Q z s) X) X):=⟨fun h=>CQ h⟩
instance FZ {f:D→Option D} {a:M D} {Q:D→Sg→Prop}:Wr (m1 f a s) Q X (Wp (a s) (fun x s=>∃ z,f x=some z∧Q z s) X):=⟨fun h=>CP h⟩
instance Ei {m n:M Fl} {Q:FQ}:Wr (aJ m n s) Q X (Wp (m s) (fun fl s=>match fl with | .nx=>Wp (n s) Q X | fl=>Q fl s) X):=⟨fun h=>Bw h⟩
instance Ek {i:Nat} {m:M T} {Q:FQ}:Wr (bh i m s) Q X (Wp (m s) (fun t s=>Q .nx (s.set i (some t))) X):=⟨fun h=>BJ h⟩
instance Dh {m:M T} {Q:FQ}:Wr (cG m s) Q X (Wp (m s) (fun t s=>Q (.rt t) s) X):=⟨fun h=>zP h⟩
instance El {m:M D} {Q:T→Sg→Prop}:Wr (toT m s) Q X (Wp (m s) (fun d s=>Q (.val d) s) X):=⟨fun h=>Bu h⟩
instance Em {m:M T} {Q:D→Sg→Prop}:Wr (cW m s) Q X (Wp (m s) (fun t s=>Q (frzT t) s) X):=⟨fun h=>Bq h⟩
instance En {t:M Bool} {m n:M Fl} {Q:FQ}:Wr (gU t m n s) Q X (Wp (t s) (fun b s=>(b=true→Wp (m s) Q X)∧(b=false→Wp (n s) Q X)) X):=⟨fun h=>Bx h⟩
instance Di {m:M D} {Q:Bool→Sg→Prop}:Wr (bH m s) Q X (Wp (m s) (fun d s=>∃ b,d = .bl b∧Q b s) X):=⟨fun h=>zH h⟩
instance Eo {m n:M Bool} {Q:Bool→Sg→Prop}:Wr (vK m n s) Q X (Wp (m s) (fun b s=>(b=true→Wp (n s) Q X)∧(b=false→Q false s)) X):=⟨fun h=>w_and h⟩
instance Ge {m n:M Bool} {Q:Bool→Sg→Prop}:Wr (uJ m n s) Q X (Wp (m s) (fun b s=>(b=true→Q true s)∧(b=false→Wp (n s) Q X)) X):=⟨fun h=>w_or h⟩
instance Ep {Q:List D→Sg→Prop}:Wr (bL s) Q X (Q [] s):=⟨fun h=>Br h⟩
instance Dj {m:M D} {r:M (List D)} {Q:List D→Sg→Prop}:Wr (aC m r s) Q X (Wp (m s) (fun d s=>Wp (r s) (fun ds s=>Q (d :: ds) s) X) X):=⟨fun h=>zJ h⟩
instance Es {m:M (List D)} {Q:D→Sg→Prop}:Wr (gq m s) Q X (Wp (m s) (fun ds s=>fits ds.length=true∧Q (.tup ds) s) X):=⟨fun h=>Bs h⟩
instance Et {m:M (List D)} {Q:T→Sg→Prop}:Wr (dR m s) Q X (Wp (m s) (fun ds s=>fits ds.length=true∧Q (.own ds) s) X):=⟨fun h=>Bt h⟩
instance Dk {m:M D} {Q:List D→Sg→Prop}:Wr (iT m s) Q X (Wp (m s) (fun d s=>∃ j,d = .int j∧lY j=true∧Q (fM 0 j) s) X):=⟨fun h=>zK h⟩
instance Dm {Q:List Ar→Sg→Prop}:Wr (bM s) Q X (Q [] s):=⟨fun h=>zL h⟩
instance Dq {m:M D} {r:M (List Ar)} {Q:List Ar→Sg→Prop}:Wr (aVal m r s) Q X (Wp (m s) (fun d s=>Wp (r s) (fun as s=>Q (.dv d :: as) s) X) X):=⟨fun h=>zM h⟩
instance Dr {n m:Nat} {gA:List Ar→List Ar→List Ar} {fm:Fn} {ma mk:M (List Ar)} {Q:T→Sg→Prop}:Wr (cX n m gA fm ma mk s) Q X (Wp (ma s) (fun as s=>Wp (mk s) (fun bs s=>(as.length=n∧bs.length=m)∧dist (gA as bs)=true∧∃ ts,resolve s (gA as bs)=some ts ∧
  Sp fm ts (fun r outs=>Q r (aZ s (gA as bs) outs)) (fun c fs outs=>X c fs (aZ s (gA as bs) outs))) X) X):=⟨fun h=>w_call h⟩
instance Ds {Q:FQ}:Wr (eY s) Q X (Q .nx s):=⟨fun h=>zN h⟩
instance Eu {i:Nat} {mk me:M D} {Q:FQ}:Wr (ig i mk me s) Q X (Wp (me s) (fun d s=>Wp (aA i s) (fun _ s=>Wp (mk s) (fun k s=>∃ t t',s[i]? = some (some t)∧g8 t k d=some t'∧Q .nx (s.set i (some t'))) X) X) X):=⟨fun h=>BK h⟩
instance Ew {a:GA} {m:M D} {Q:FQ}:Wr (tY a m s) Q X (Wp (m s) (fun d s=>∃ s',a d s=some s'∧Q .nx s') X):=⟨fun h=>BL h⟩
instance Ey {mi : M (List D)} {a : GA} {m : M Fl} {Q : FQ} : Wr (qC mi a m s) Q X (Wp (mi s) (fun ds s => ∃ I : Nat → Sg → Prop, I 0 s ∧ (∀ k d s, ds[k]? = some d → I k s → ∃ s', a d s = some s' ∧ Wp (m s') (fun fl s => match fl with
  | .nx=>I (k+1) s
  | .ct=>I (k+1) s
  | .bk=>Q .nx s
  | .rt r=>Q (.rt r) s) X)∧∀ s,I ds.length s→Q .nx s) X):=⟨fun h=>BP h⟩
instance Dt {i:Nat} {Q:D→Sg→Prop}:Wr (aA i s) Q X (∃ t,s[i]? = some (some t)∧Q (frzT t) s):=⟨fun ⟨_,e,h⟩=>qU e h⟩
abbrev qY (s:Sg) (i:Nat):T→Sg
 | .val _=>s
 | .own xs=>s.set i (some (.val (frzT (.own xs))))
 | .owd xs=>s.set i (some (.val (frzT (.owd xs))))
 | .sto xs=>s.set i (some (.val (frzT (.sto xs))))
instance Ez {i:Nat} {Q:D→Sg→Prop}:Wr (aU i s) Q X (∃ t,s[i]? = some (some t)∧Q (frzT t) (qY s i t)):=⟨fun ⟨t,e,h⟩=>by
 cases t with
 | val d=>exact zG e h
 | own xs=>exact w_var e h
 | owd xs=>exact w_var e h
 | sto xs=>exact w_var e h⟩
abbrev qZ (s:Sg) (i:Nat):T→Sg
 | .val _=>s
 | .own _=>s.set i none
 | .owd _=>s.set i none
 | .sto _=>s
abbrev rA:T→T
 | .val d=>.val d
 | .own xs=>.own xs
 | .owd xs=>.owd xs
 | .sto _=>.val .non
instance Du {i:Nat} {Q:T→Sg→Prop}:Wr (gM i s) Q X (∃ t,s[i]? = some (some t)∧Q (rA t) (qZ s i t)):=⟨fun ⟨t,e,h⟩=>by
 cases t with
 | val d=>exact qW e h
 | own xs=>exact qW e h
 | owd xs=>exact qW e h
 | sto xs=>unfold Wp gM; rw [e]; exact h⟩
instance EY {f:D→D→Option D} {i:Nat} {b:M D} {Q:D→Sg→Prop}:Wr (aM f i b s) Q X (∃ t,s[i]? = some (some t)∧Wp (b s) (fun y s=>Wp (aA i s) (fun x s=>∃ z,f x y=some z∧Q z s) X) X):=⟨fun ⟨_,e,h⟩=>Bp e h⟩
instance Fb {i:Nat} {r:M (List Ar)} {Q:List Ar→Sg→Prop}:Wr (mX i r s) Q X (∃ t,s[i]? = some (some t)∧Wp (r s) (fun as s=>Q (.io i :: as) s) X):=⟨fun ⟨_,e,h⟩=>Bv e h⟩
end
section
variable {Q:D→Prop} {i j:Int}
instance Fd:Ex (D.mul (.int i) (.int j)) Q (mQ i j=true∧Q (.int (i*j))):=⟨fun h=>⟨_,zQ h.1,h.2⟩⟩
instance Dy:Ex (D.fdiv (.int i) (.int j)) Q (pK j=true∧Q (.int (i.fdiv j))):=⟨fun h=>⟨_,xP h.1,h.2⟩⟩
instance Fe:Ex (D.mod (.int i) (.int j)) Q (j≠0∧Q (.int (i.fmod j))):=⟨fun h=>⟨_,zR h.1,h.2⟩⟩
instance Fg:Ex (D.pow (.int i) (.int j)) Q ((0≤j∧j≤1000000∧i.natAbs < 18446744073709551616)∧Q (.int (i ^ j.toNat))):=⟨fun h=>⟨_,zU h.1,h.2⟩⟩
instance Fj:Ex (D.add (.int i) (.int j)) Q (Q (.int (i+j))):=⟨fun h=>⟨_,rfl,h⟩⟩
instance Fo:Ex (D.sub (.int i) (.int j)) Q (Q (.int (i - j))):=⟨fun h=>⟨_,rfl,h⟩⟩
instance Fp {p:Int→Int→Bool}:Ex (D.fX p (.int i) (.int j)) Q (Q (.bl (p i j))):=⟨fun h=>⟨_,rfl,h⟩⟩
instance Fq:Ex (D.abs (.int i)) Q (Q (.int (if i < 0 then -i else i))):=⟨fun h=>⟨_,rfl,h⟩⟩
instance Ft:Ex (D.max (.int i) (.int j)) Q (Q (.int (if j > i then j else i))):=⟨fun h=>⟨_,rfl,h⟩⟩
instance Fv:Ex (D.min (.int i) (.int j)) Q (Q (.int (if j < i then j else i))):=⟨fun h=>⟨_,rfl,h⟩⟩
instance Cp {k:Bool}:Ex (D.toInt (.bl k)) Q (Q (.int (if k then 1 else 0))):=⟨fun h=>⟨_,rfl,h⟩⟩
instance Dz {xs:List Int}:Ex (D.len (.scr xs)) Q (Q (.int xs.length)):=⟨fun h=>⟨_,rfl,h⟩⟩
instance CV {c:Prop} [Decidable c]:Ex (D.ix (.lst [.int i,.int j]) (.int (if c then 1 else 0))) Q (Q (.int (if c then j else i))):=⟨fun h=>⟨_,CT,h⟩⟩
instance DG {x:D} {r:List D}:Ex (D.ix (.lst (x :: r)) (.int 0)) Q (Q x):=⟨fun h=>⟨_,Ck,h⟩⟩
instance DK {x y:D} {r:List D}:Ex (D.ix (.lst (x :: y :: r)) (.int 1)) Q (Q y):=⟨fun h=>⟨_,Cm,h⟩⟩
instance DN {x y z:D} {r:List D}:Ex (D.ix (.lst (x :: y :: z :: r)) (.int 2)) Q (Q z):=⟨fun h=>⟨_,Ec,h⟩⟩
instance DP {x y z v:D} {r:List D}:Ex (D.ix (.lst (x :: y :: z :: v :: r)) (.int 3)) Q (Q v):=⟨fun h=>⟨_,Ed,h⟩⟩
instance DQ {x y z v u:D} {r:List D}:Ex (D.ix (.lst (x :: y :: z :: v :: u :: r)) (.int 4)) Q (Q u):=⟨fun h=>⟨_,Ef,h⟩⟩
theorem Fw {ns:List Int} {k:Int} (h0:0≤k) (h1:k < ns.length):D.ix (.lst (ns.map .int)) (.int k)=some (.int (ns[k.toNat]'(by omega))):=by
 rw [iL h0 (by simpa using h1)]
 simp
instance DR {ns:List Int}:Ex (D.ix (.lst (ns.map .int)) (.int i)) Q (∃ (h0:0≤i) (h1:i < ns.length),Q (.int (ns[i.toNat]'(by omega)))):=⟨fun ⟨h0,h1,h⟩=>⟨_,Fw h0 h1,h⟩⟩
instance CW {xs:List Int}:Ex (D.len (.lst (xs.map .int))) Q (Q (.int xs.length)):=⟨fun h=>⟨_,by show some (D.int _)=_; rw [List.length_map],h⟩⟩
instance Fx {ns:List Int}:Ex (D.ix (.scr ns) (.int i)) Q (∃ (h0:0≤i) (h1:i < ns.length),Q (.int (ns[i.toNat]'(by omega)))):=⟨fun ⟨h0,h1,h⟩=>⟨_,zV h0 h1,h⟩⟩
end
theorem Sp.eq {f:Fn} {ts:List T} {Q:T→Sg→Prop} (h:Sp f ts Q fun _ _ _=>False):∃ t o,f ts = .ok t o∧Q t o:=by
 have h:=h.out
 cases hf:f ts with
 | ok t o=>rw [hf] at h; exact ⟨t,o,rfl,h⟩
 | exc c fs s=>rw [hf] at h; exact h.elim
 | fail=>rw [hf] at h; exact h.elim
theorem xQ {x y:Int}:D.eqv (.int x) (.int y)=decide (x=y):=by
 unfold D.eqv D.toP
 simp only [PyData.eqv]
 by_cases h:x=y
 ·subst h; simp
 ·simp [h]
theorem xR {x y:Str}:D.eqv (.str x) (.str y)=decide (x=y):=by
 unfold D.eqv D.toP
 simp only [PyData.eqv]
 by_cases h:x=y
 ·subst h; simp
 ·simp [h]
section
variable {Q:D→Prop}
instance Fy {i j:Int}:Ex (D.eqO (.int i) (.int j)) Q (Q (.bl (decide (i=j)))):=⟨fun h=>⟨_,rfl,(xQ ▸ h)⟩⟩
instance FJ {x y:Str}:Ex (D.neO (.str x) (.str y)) Q (Q (.bl (!decide (x=y)))):=⟨fun h=>⟨_,rfl,(xR ▸ h)⟩⟩
end
theorem xs1 {g:Option (Option T)} {t:T} {Q:T→Prop} (e:g=some (some t)) (h:Q t):∃ t,g=some (some t)∧Q t:=⟨_,e,h⟩
theorem Ad {a b:Prop} {Q:a→b→Prop} (h0:a) (h1:b) (h:Q h0 h1):∃ h0 h1,Q h0 h1:=⟨h0,h1,h⟩
local macro_rules | `(tactic| walk_at "bd")=>`(tactic| first | with_reducible assumption | exact rB | ((with_reducible apply rC); walk_at "bd") | ((with_reducible apply le_app) <;> walk_at "bd") | exact Nat.le_refl _ | fail)
local macro_rules | `(tactic| walk_at "bn")=>`(tactic| (apply Nat.le_trans; (walk_at "bd"); (decide)))
local macro_rules | `(tactic| walk_at "sd")=>`(tactic| first | decide | omega | exact fmod_lo (by omega) | exact fmod_hi (by omega) | fail)
local macro_rules | `(tactic| walk_at "so")=>`(tactic| first | omega | decide | fail)
local macro_rules | `(tactic| walk_at "fl")=>`(tactic| first
 | omega
 | (simp only [List.length_cons,List.length_nil,List.length_append,List.length_map]; omega)
 | walk_at "bn"
 | ((apply Nat.le_trans); ((with_reducible apply Nat.add_le_add) <;> walk_at "bd"); (decide))
 | decide
 | fail)
local macro_rules | `(tactic| walk_at "lf")=>`(tactic| first
 | with_reducible assumption
 | ((with_reducible apply oJ); walk_at "fl")
 | ((with_reducible apply lM) <;> walk_at "so")
 | ((with_reducible apply oG) <;> walk_at "so")
 | (with_reducible refine And.intro ?_ (And.intro ?_ ?_) <;> walk_at "so")
 | ((with_reducible apply oH) <;> walk_at "so")
 | (with_reducible apply decide_eq_true; walk_at "so")
 | with_reducible exact rfl
 | omega
 | decide
 | assumption
 | exact rfl
 | fail)
local macro_rules | `(tactic| walk_at "br")=>`(tactic| (with_reducible refine qX (fun hb=>?_) (fun hb=>?_)) <;> (try simp only [lO,yq,oY,sS,decide_eq_true_eq,decide_eq_false_iff_not,Bool.not_eq_true',Bool.not_eq_false',Bool.not_true,Bool.not_false,Int.not_lt,Int.not_le,reduceCtorEq,decide_true,decide_false] at hb))
local macro_rules | `(tactic| walk_at "st")=>`(tactic| first
 | with_reducible refine Wr.out ?_
 | with_reducible refine Ex.out ?_
 | ((with_reducible apply xs1); (exact rfl))
 | walk_at "br"
 | ((with_reducible apply x4); (exact rfl); (exact rfl); (exact rfl); (exact rfl))
 | ((with_reducible apply Ac); (exact rfl); walk_at "br")
 | with_reducible refine x3 ?_
 | ((with_reducible refine x5 ?_ ?_); (· exact ux (by walk_at "sd") (by walk_at "sd")))
 | with_reducible refine Aa ?_
 | with_reducible refine Ab ?_
 | ((with_reducible apply x2); (exact rfl); (with_reducible first | exact zX | exact zY | exact z7 | exact z8 | exact z9))
 | with_reducible refine x8 ?_
 | ((with_reducible apply rD); (exact rfl); (walk_at "lf"))
 | ((with_reducible apply rE); (exact rfl); (walk_at "lf"))
 | ((with_reducible refine And.intro ?w_l ?w_h); (case w_l=>walk_at "lf"))
 | ((with_reducible refine Ad ?_ ?_ ?_); (· walk_at "sd"); (· walk_at "sd"))
 | ((with_reducible apply x1); (exact rfl))
 | fail)
local macro_rules | `(tactic| walk_at "go")=>`(tactic| repeat' walk_at "st")
local macro_rules | `(tactic| walk_at "nf")=>`(tactic| try dsimp only [aZ,qY,qZ,rA,frzT,bT,bW,List.set_cons_zero,List.set_cons_succ,List.set_nil,List.getElem?_cons_zero,List.getElem?_cons_succ])
abbrev NX:Str→List (Str × D)→Sg→Prop:=fun _ _ _=>False
abbrev fd (a b c:Int):T:=.own [.int a,.int b,.int c]
namespace Lib
def nu:M Fl :=
 (aJ (bh 2 (toT (m2 D.add (m2 D.mul (ret (.int 7643)) (aA 1)) (ret (.int 41)))))
  (aJ (gU (bH (aM (D.fX lO) 1 (m1 D.len (aA 0)))) ((bh 2 (toT (m1 D.abs (aM D.ix 0 (aA 1)))))) ((gU (bH (m2 (D.fX oY) (m1 D.len (aA 0)) (ret (.int 0)))) ((bh 2 (toT (aM D.add 2 (m2 D.mul (m2 D.mod (aM D.ix 0 (aM D.mod 1 (m1 D.len (aA 0)))) (ret (.int 2147483629))) (ret (.int 69623))))))) (eY))))
  (aJ (bh 3 (toT (m2 D.add (m2 D.mod (m2 D.add (m2 D.add (m2 D.mul (aM D.mod 2 (ret (.int 2147483629))) (ret (.int 48271))) (m2 D.mul (ret (.int 40692)) (aA 1))) (ret (.int 11))) (ret (.int 2147483629))) (ret (.int 1)))))
  (cG (dR (aC (m2 D.ix (cW (dR (aC (ret (.int 0)) (aC (aU 2) bL)))) (m1 D.toInt (aM (D.fX sS) 2 (m2 D.pow (ret (.int 10)) (ret (.int 18)))))) (aC (aU 3) (aC (ret (.int 0)) bL))))))))
def nA:Fn:=fnOf [] 2 4 nu
theorem vm (ns:List Int) (k:Int) (h:0≤k):Sp nA [.val (.scr ns),.val (.int k)] (fun t o=>∃ a b,t=fd a b 0∧o=[none,none]) NX:=by
 refine nq rfl ?_
 show Wp (nu [some (.val (.scr ns)),some (.val (.int k)),none,none]) _ _
 unfold nu
 walk_at "go"
 all_goals exact ⟨_,_,rfl,rfl⟩
def nD:M Fl :=
 (aJ (gU (bH (m2 (D.fX oY) (aM D.ix 0 (ret (.int 0))) (ret (.int 0)))) ((aJ (bh 3 (toT (m2 D.mod (aM D.ix 0 (ret (.int 0))) (aA 1))))
  (aJ (ig 0 (ret (.int 0)) (m2 D.fdiv (aM D.ix 0 (ret (.int 0))) (aA 1)))
  (cG (gM 3))))) (eY))
  (aJ (ig 0 (ret (.int 2)) (m2 D.add (aM D.ix 0 (ret (.int 2))) (ret (.int 1))))
  (aJ (bh 2 (toT (m2 D.mod (m2 D.mul (m2 D.add (aM D.ix 0 (ret (.int 1))) (m2 D.mul (ret (.int 104729)) (aM D.ix 0 (ret (.int 2))))) (ret (.int 69623))) (ret (.int 2147483647)))))
  (aJ (ig 0 (ret (.int 1)) (m2 D.add (m2 D.mod (m2 D.add (aM D.mul 2 (ret (.int 48271))) (ret (.int 30103))) (ret (.int 2147483629))) (ret (.int 1))))
  (cG (toT (m2 D.mod (m2 D.fdiv (m2 D.add (aM D.mul 2 (ret (.int 2147483647))) (aM D.ix 0 (ret (.int 1)))) (ret (.int 8191))) (aA 1))))))))
def nH:Fn:=fnOf [0] 2 4 nD
theorem vp (a b c n:Int) (h0:0 < n) (h1:n < 18446744073709551616):Sp nH [fd a b c,.val (.int n)] (fun t o=>∃ r a' b' c',t = .val (.int r)∧o=[some (fd a' b' c'),none]∧0≤r∧r < n) NX:=by
 refine nq rfl ?_
 show Wp (nD [some (fd a b c),some (.val (.int n)),none,none]) _ _
 unfold nD
 walk_at "go"
 all_goals exact ⟨_,_,_,_,rfl,rfl,fmod_lo h0,fmod_hi h0⟩
theorem rF {a b c n:Int} {Q:T→Sg→Prop} {X:Str→List (Str × D)→Sg→Prop} (h0:0 < n) (h1:n < 18446744073709551616) (h:∀ r a' b' c',0≤r→r < n→Q (.val (.int r)) [some (fd a' b' c'),none]):Sp nH [fd a b c,.val (.int n)] Q X :=
 (vp a b c n h0 h1).use fun _ _ ⟨r,a',b',c',e1,e2,h2,h3⟩=>e1 ▸ e2 ▸ h r a' b' c' h2 h3
theorem Ae {ns:List Int} {k:Int} {Q:T→Sg→Prop} {X:Str→List (Str × D)→Sg→Prop} (h0:0≤k) (h:∀ a b,Q (fd a b 0) [none,none]):Sp nA [.val (.scr ns),.val (.int k)] Q X :=
 (vm ns k h0).use fun _ _ ⟨a,b,e1,e2⟩=>e1 ▸ e2 ▸ h a b
def sg (l:Int):Int:=1 - 2*(if l < 0 then 1 else 0)
def uz (u l:Int):Int:=(sg l*u).fdiv (Int.gcd u l)
def oK (u l:Int):Int:=(sg l*l).fdiv (Int.gcd u l)
theorem Af (l:Int):sg l*l=(l.natAbs:Int):=by
 unfold sg
 split <;> omega
theorem BR (l:Int):sg l=1∨sg l = -1:=by
 unfold sg
 split <;> omega
theorem nJ {u l:Int} (h0:l≠0):0 < Int.gcd u l:=Int.gcd_pos_of_ne_zero_right u h0
theorem rG (u l:Int) (h0:l≠0):uz u l*(Int.gcd u l:Int)=sg l*u:=by
 unfold uz
 rw [Int.fdiv_eq_ediv_of_nonneg _ (Int.natCast_nonneg _)]
 exact Int.ediv_mul_cancel (Int.dvd_trans (Int.gcd_dvd_left u l) (Int.dvd_mul_left _ _))
theorem mH (u l:Int) (h0:l≠0):oK u l*(Int.gcd u l:Int)=(l.natAbs:Int):=by
 rw [← Af]
 unfold oK
 rw [Int.fdiv_eq_ediv_of_nonneg _ (Int.natCast_nonneg _)]
 exact Int.ediv_mul_cancel (Int.dvd_trans (Int.gcd_dvd_right u l) (Int.dvd_mul_left _ _))
theorem nM {x y:Int} {g:Nat} (hg:0 < g) (h:x*g=y):x.natAbs≤y.natAbs:=by
 rw [← h,Int.natAbs_mul]
 exact Nat.le_mul_of_pos_right _ (by simpa using hg)
theorem v7 (u l:Int) (h0:l≠0):0 < oK u l:=by
 have h:=mH u l h0
 have hg:(0:Int) < (Int.gcd u l:Int):=by have:=nJ (u:=u) h0; omega
 have:0 < oK u l*(Int.gcd u l:Int):=by rw [h]; omega
 exact Int.pos_of_mul_pos_left this hg
theorem xT (u l:Int) (h0:l≠0):oK u l≤l.natAbs:=by
 have:=nM (nJ h0) (mH u l h0)
 have:=v7 u l h0
 omega
theorem xU (u l:Int) (h0:l≠0):(uz u l).natAbs≤u.natAbs:=by
 have:=nM (nJ h0) (rG u l h0)
 rw [Int.natAbs_mul] at this
 rcases BR l with h | h <;> rw [h] at this <;> simpa using this
abbrev fl (ns:List Int) (i c a b:Int):T:=.own [.lst (ns.map .int),.int i,.int c,.int a,.int b]
def rH:M Fl :=
 (aJ (gU (vK (bH (m2 D.eqO (aM D.ix 0 (ret (.int 2))) (ret (.int 0)))) (bH (m2 (D.fX lO) (aM D.ix 0 (ret (.int 1))) (m1 D.len (aM D.ix 0 (ret (.int 0))))))) ((aJ (bh 2 (toT (m2 D.ix (aM D.ix 0 (ret (.int 0))) (aM D.ix 0 (ret (.int 1))))))
  (aJ (ig 0 (ret (.int 1)) (m2 D.add (aM D.ix 0 (ret (.int 1))) (ret (.int 1))))
  (gU (bH (aM (D.fX sS) 2 (m2 D.pow (ret (.int 10)) (ret (.int 18))))) ((ig 0 (ret (.int 2)) (aU 2))) ((ig 0 (ret (.int 3)) (m2 D.mod (m2 D.add (m2 D.add (m2 D.mul (aM D.ix 0 (ret (.int 3))) (ret (.int 40013))) (aM D.mod 2 (ret (.int 1000003)))) (ret (.int 1))) (ret (.int 2147483647))))))))) (eY))
  (aJ (gU (bH (m2 (D.fX oY) (aM D.ix 0 (ret (.int 2))) (ret (.int 0)))) ((aJ (bh 3 (toT (m2 D.mod (aM D.ix 0 (ret (.int 2))) (aA 1))))
  (aJ (ig 0 (ret (.int 2)) (m2 D.fdiv (aM D.ix 0 (ret (.int 2))) (aA 1)))
  (cG (gM 3))))) (eY))
  (aJ (ig 0 (ret (.int 4)) (m2 D.add (aM D.ix 0 (ret (.int 4))) (ret (.int 1))))
  (aJ (ig 0 (ret (.int 3)) (m2 D.mod (m2 D.add (m2 D.add (m2 D.mul (aM D.ix 0 (ret (.int 3))) (ret (.int 48271))) (ret (.int 12820163))) (aM D.ix 0 (ret (.int 4)))) (ret (.int 2147483647))))
  (cG (toT (m2 D.mod (m2 D.fdiv (m2 D.mod (m2 D.mul (m2 D.add (m2 D.mod (aM D.ix 0 (ret (.int 3))) (ret (.int 65521))) (ret (.int 1))) (m2 D.add (m2 D.fdiv (aM D.ix 0 (ret (.int 3))) (ret (.int 65521))) (ret (.int 7919)))) (ret (.int 1000003))) (ret (.int 7))) (aA 1))))))))
def Ag:Fn:=fnOf [0] 2 4 rH
theorem vq {ns:List Int} {i c a b n:Int} {Q:T→Sg→Prop} {X:Str→List (Str × D)→Sg→Prop} (hi:0≤i) (h0:0 < n) (h1:n < 18446744073709551616) (h:∀ r i' c' a' b',0≤i'→0≤r→r < n→Q (.val (.int r)) [some (fl ns i' c' a' b'),none]):Sp Ag [fl ns i c a b,.val (.int n)] Q X:=by
  refine nq rfl ?_
  show Wp (rH [some (fl ns i c a b),some (.val (.int n)),none,none]) _ _
  unfold rH
  walk_at "go"
  all_goals first
    | exact h _ _ _ _ _ (by omega) (fmod_lo h0) (fmod_hi h0)
    | (refine ⟨lM ?_ ?_, ?_⟩
       · have:=fmod_lo (a:=a) (b:=65521) (by decide); exact Int.lt_of_lt_of_le (by decide) (Int.add_le_add (fmod_lo (by decide)) (Int.le_refl 1))
       · exact Int.lt_trans (Int.add_lt_add_of_lt_of_le (fmod_hi (by decide)) (Int.le_refl 1)) (by decide)
       walk_at "go"
       exact h _ _ _ _ _ (by omega) (fmod_lo h0) (fmod_hi h0))
end Lib
end Mir
namespace Mir
open PySem PySem.Spec PyProof.Rows L2
theorem rD {g:Option (Option T)} {xs:List D} {d:D} {Q:T→D→Prop} (e1:g=some (some (.own xs))) (hf:fits (xs.length+1)=true) (h:Q (.own (xs++[d])) .non):∃ t t' z,g=some (some t)∧t.owned=true∧gD t d=some (t',z)∧Q t' z:=⟨_,_,_,e1,rfl,if_pos hf,h⟩
theorem rE {g:Option (Option T)} {xs ys:List D} {Q:T→D→Prop} (e1:g=some (some (.own xs))) (hf:fits (xs.length+ys.length)=true) (h:Q (.own (xs++ys)) .non):∃ t t' z,g=some (some t)∧t.owned=true∧wY t (.lst ys)=some (t',z)∧Q t' z:=⟨_,_,_,e1,rfl,if_pos hf,h⟩
theorem rC {z:Str} {lo hi:Option Int} {n:Nat} (h:z.length≤n):(cutS z lo hi).length≤n:=Nat.le_trans (cutS_length z lo hi) h
theorem le_app {a b:Str} {m n:Nat} (h:a.length≤m) (g:b.length≤n):(a++b).length≤m+n:=by
 rw [PySem.Str.length_append]; exact Nat.add_le_add h g
theorem rB {c:Nat}:(⟨#[c]⟩ : Str).length≤1:=Nat.le_refl 1
local macro_rules | `(tactic| walk_at "bd")=>`(tactic| first | with_reducible assumption | exact rB | ((with_reducible apply rC); walk_at "bd") | ((with_reducible apply le_app) <;> walk_at "bd") | exact Nat.le_refl _ | fail)
local macro_rules | `(tactic| walk_at "bn")=>`(tactic| (apply Nat.le_trans; (walk_at "bd"); (decide)))
local macro_rules | `(tactic| walk_at "sd")=>`(tactic| first | decide | omega | exact fmod_lo (by omega) | exact fmod_hi (by omega) | fail)
local macro_rules | `(tactic| walk_at "so")=>`(tactic| first | omega | decide | fail)
local macro_rules | `(tactic| walk_at "fl")=>`(tactic| first
 | omega
 | (simp only [List.length_cons,List.length_nil,List.length_append,List.length_map]; omega)
 | walk_at "bn"
 | ((apply Nat.le_trans); ((with_reducible apply Nat.add_le_add) <;> walk_at "bd"); (decide))
 | decide
 | fail)
local macro_rules | `(tactic| walk_at "lf")=>`(tactic| first
 | with_reducible assumption
 | ((with_reducible apply oJ); walk_at "fl")
 | ((with_reducible apply lM) <;> walk_at "so")
 | ((with_reducible apply oG) <;> walk_at "so")
 | (with_reducible refine And.intro ?_ (And.intro ?_ ?_) <;> walk_at "so")
 | ((with_reducible apply oH) <;> walk_at "so")
 | (with_reducible apply decide_eq_true; walk_at "so")
 | with_reducible exact rfl
 | omega
 | decide
 | assumption
 | exact rfl
 | fail)
local macro_rules | `(tactic| walk_at "br")=>`(tactic| (with_reducible refine qX (fun hb=>?_) (fun hb=>?_)) <;> (try simp only [lO,yq,oY,sS,decide_eq_true_eq,decide_eq_false_iff_not,Bool.not_eq_true',Bool.not_eq_false',Bool.not_true,Bool.not_false,Int.not_lt,Int.not_le,reduceCtorEq,decide_true,decide_false] at hb))
local macro_rules | `(tactic| walk_at "st")=>`(tactic| first
 | with_reducible refine Wr.out ?_
 | with_reducible refine Ex.out ?_
 | ((with_reducible apply xs1); (exact rfl))
 | walk_at "br"
 | ((with_reducible apply x4); (exact rfl); (exact rfl); (exact rfl); (exact rfl))
 | ((with_reducible apply Ac); (exact rfl); walk_at "br")
 | with_reducible refine x3 ?_
 | ((with_reducible refine x5 ?_ ?_); (· exact ux (by walk_at "sd") (by walk_at "sd")))
 | with_reducible refine Aa ?_
 | with_reducible refine Ab ?_
 | ((with_reducible apply x2); (exact rfl); (with_reducible first | exact zX | exact zY | exact z7 | exact z8 | exact z9))
 | with_reducible refine x8 ?_
 | ((with_reducible apply rD); (exact rfl); (walk_at "lf"))
 | ((with_reducible apply rE); (exact rfl); (walk_at "lf"))
 | ((with_reducible refine And.intro ?w_l ?w_h); (case w_l=>walk_at "lf"))
 | ((with_reducible refine Ad ?_ ?_ ?_); (· walk_at "sd"); (· walk_at "sd"))
 | ((with_reducible apply x1); (exact rfl))
 | fail)
local macro_rules | `(tactic| walk_at "go")=>`(tactic| repeat' walk_at "st")
local macro_rules | `(tactic| walk_at "nf")=>`(tactic| try dsimp only [aZ,qY,qZ,rA,frzT,bT,bW,List.set_cons_zero,List.set_cons_succ,List.set_nil,List.getElem?_cons_zero,List.getElem?_cons_succ])
namespace Lib
end Lib
end Mir
local macro_rules | `(tactic| walk_at "bd")=>`(tactic| first | with_reducible assumption | exact Mir.rB | ((with_reducible apply Mir.rC); walk_at "bd") | ((with_reducible apply Mir.le_app) <;> walk_at "bd") | exact Nat.le_refl _ | fail)
local macro_rules | `(tactic| walk_at "bn")=>`(tactic| (apply Nat.le_trans; (walk_at "bd"); (decide)))
local macro_rules | `(tactic| walk_at "sd")=>`(tactic| first | decide | omega | exact Mir.fmod_lo (by omega) | exact Mir.fmod_hi (by omega) | fail)
local macro_rules | `(tactic| walk_at "so")=>`(tactic| first | omega | decide | fail)
local macro_rules | `(tactic| walk_at "fl")=>`(tactic| first
 | omega
 | (simp only [List.length_cons,List.length_nil,List.length_append,List.length_map]; omega)
 | walk_at "bn"
 | ((apply Nat.le_trans); ((with_reducible apply Nat.add_le_add) <;> walk_at "bd"); (decide))
 | decide
 | fail)
local macro_rules | `(tactic| walk_at "lf")=>`(tactic| first
 | with_reducible assumption
 | ((with_reducible apply Mir.oJ); walk_at "fl")
 | ((with_reducible apply Mir.lM) <;> walk_at "so")
 | ((with_reducible apply Mir.oG) <;> walk_at "so")
 | (with_reducible refine And.intro ?_ (And.intro ?_ ?_) <;> walk_at "so")
 | ((with_reducible apply Mir.oH) <;> walk_at "so")
 | (with_reducible apply decide_eq_true; walk_at "so")
 | with_reducible exact rfl
 | omega
 | decide
 | assumption
 | exact rfl
 | fail)
local macro_rules | `(tactic| walk_at "br")=>`(tactic| (with_reducible refine Mir.qX (fun hb=>?_) (fun hb=>?_)) <;> (try simp only [Mir.lO,Mir.yq,Mir.oY,Mir.sS,decide_eq_true_eq,decide_eq_false_iff_not,Bool.not_eq_true',Bool.not_eq_false',Bool.not_true,Bool.not_false,Int.not_lt,Int.not_le,reduceCtorEq,decide_true,decide_false] at hb))
local macro_rules | `(tactic| walk_at "st")=>`(tactic| first
 | with_reducible refine Mir.Wr.out ?_
 | with_reducible refine Mir.Ex.out ?_
 | ((with_reducible apply Mir.xs1); (exact rfl))
 | walk_at "br"
 | ((with_reducible apply Mir.x4); (exact rfl); (exact rfl); (exact rfl); (exact rfl))
 | ((with_reducible apply Mir.Ac); (exact rfl); walk_at "br")
 | with_reducible refine Mir.x3 ?_
 | ((with_reducible refine Mir.x5 ?_ ?_); (· exact Mir.ux (by walk_at "sd") (by walk_at "sd")))
 | with_reducible refine Mir.Aa ?_
 | with_reducible refine Mir.Ab ?_
 | ((with_reducible apply Mir.x2); (exact rfl); (with_reducible first | exact Mir.zX | exact Mir.zY | exact Mir.z7 | exact Mir.z8 | exact Mir.z9))
 | with_reducible refine Mir.x8 ?_
 | ((with_reducible apply Mir.rD); (exact rfl); (walk_at "lf"))
 | ((with_reducible apply Mir.rE); (exact rfl); (walk_at "lf"))
 | ((with_reducible refine And.intro ?w_l ?w_h); (case w_l=>walk_at "lf"))
 | ((with_reducible refine Mir.Ad ?_ ?_ ?_); (· walk_at "sd"); (· walk_at "sd"))
 | ((with_reducible apply Mir.x1); (exact rfl))
 | fail)
local macro_rules | `(tactic| walk_at "go")=>`(tactic| repeat' walk_at "st")
local macro_rules | `(tactic| walk_at "nf")=>`(tactic| try dsimp only [Mir.aZ,Mir.qY,Mir.qZ,Mir.rA,Mir.frzT,Mir.bT,Mir.bW,List.set_cons_zero,List.set_cons_succ,List.set_nil,List.getElem?_cons_zero,List.getElem?_cons_succ])
namespace Mir
open PySem PySem.Spec PyProof.Rows L2
namespace Lib
section
variable {Q:T→Sg→Prop} {X:Str→List (Str × D)→Sg→Prop}
local macro_rules | `(tactic| walk_at "cl")=>`(tactic| first
 | ((with_reducible refine vq ?_ ?_ ?_ fun _ _ _ _ _ _ _ _=>?_); (· assumption); (· walk_at "sd"); (· walk_at "sd"))
 | fail)
local macro_rules | `(tactic| walk_at "gc")=>`(tactic| repeat' first | walk_at "st" | walk_at "cl" | intro _ _)
local macro_rules | `(tactic| walk_at "kb")=>`(tactic| first
 | ((with_reducible refine qX (fun _=>?_) (fun hb=>absurd hb (by decide))))
 | ((with_reducible refine qX (fun hb=>absurd hb (by decide)) (fun _=>?_)))
 | fail)
local macro_rules | `(tactic| walk_at "gk")=>`(tactic| repeat' first | walk_at "kb" | walk_at "st" | walk_at "cl" | intro _ _)
end
end Lib
end Mir
namespace Mir
open PySem PySem.Spec PyProof.Rows L2
namespace Lib
abbrev nm (r:Rat):D:=.tup [.int r.num,.int r.den]
theorem xV (u l:Int) (h:l≠0):uz u l=(Rat.divInt u l).num:=by
 rw [Rat.num_divInt]
 have hg:0 < Int.gcd u l:=nJ h
 have h1:=rG u l h
 rw [Int.gcd_comm l u]
 have hs:l.sign*u=sg l*u:=by
  congr 1
  unfold sg
  split
  ·rw [Int.sign_eq_neg_one_of_neg (by assumption)]; rfl
  ·rw [Int.sign_eq_one_of_pos (by omega)]; rfl
 rw [hs,← h1,Int.mul_ediv_cancel _ (by omega)]
theorem xW (u l:Int) (h:l≠0):oK u l=((Rat.divInt u l).den:Int):=by
 rw [Rat.den_divInt,if_neg h,Int.gcd_comm l u]
 have hg:0 < Int.gcd u l:=nJ h
 have h1:=mH u l h
 rw [Int.natCast_ediv,← h1,Int.mul_ediv_cancel _ (by omega)]
def Bd (B:Nat) (r:Rat):Prop:=r.num.natAbs < 2 ^ B∧r.den < 2 ^ B
theorem Ah {B:Nat} {u l:Int} (h0:l≠0) (hu:u.natAbs < 2 ^ B) (hl:l.natAbs < 2 ^ B):Bd B (Rat.divInt u l):=by
 have h1:=xU u l h0
 have h2:=xT u l h0
 rw [xV u l h0] at h1
 rw [xW u l h0] at h2
 exact ⟨by omega,by omega⟩
theorem lt_mul {a b A B:Nat} (h1:a < 2 ^ A) (h2:b < 2 ^ B):a*b < 2 ^ (A+B):=by
 rw [Nat.pow_add]
 exact Nat.mul_lt_mul'' h1 h2
theorem xX (a b:Rat):a - b=Rat.divInt (a.num*b.den - b.num*a.den) (a.den*b.den):=by
 rw [Rat.sub_def',← Rat.divInt_ofNat]; simp
theorem den_pos (a:Rat):0 < a.den:=Nat.pos_of_ne_zero a.den_nz
theorem xY (a b:Rat):(a.den:Int)*b.den≠0:=by
 have h1:=den_pos a; have h2:=den_pos b
 exact Int.mul_ne_zero (by omega) (by omega)
section
variable {A B:Nat} {a b:Rat} (ha:Bd A a) (hb:Bd B b)
include ha hb
theorem CZ:(a.num*b.den).natAbs < 2 ^ (A+B):=by rw [Int.natAbs_mul]; exact lt_mul ha.1 hb.2
theorem Dc:(b.num*a.den).natAbs < 2 ^ (A+B):=by rw [Int.natAbs_mul,Nat.add_comm]; exact lt_mul hb.1 ha.2
theorem BW:((a.den:Int)*b.den).natAbs < 2 ^ (A+B):=by rw [Int.natAbs_mul]; exact lt_mul ha.2 hb.2
theorem Bd.sub:Bd (A+B+1) (a - b):=by
 have h1:=CZ ha hb; have h2:=Dc ha hb; have h3:=BW ha hb
 rw [xX]; exact Ah (xY a b) (by rw [Nat.pow_succ]; omega) (by rw [Nat.pow_succ]; omega)
end
section
variable {Q:T→Sg→Prop} {X:Str→List (Str × D)→Sg→Prop}
structure Cq (a b:Rat):Prop where
 ex:∃ A B,Bd A a∧Bd B b∧A+B < 800000∧(Int.gcd (a.num*b.den+b.num*a.den) ((a.den:Int)*b.den)).log2 < 700000
structure wN (a b:Rat):Prop where
 ex:∃ A B,Bd A a∧Bd B b∧A+B < 800000∧(Int.gcd (a.num*b.den - b.num*a.den) ((a.den:Int)*b.den)).log2 < 700000
structure Cr (a b:Rat):Prop where
 ex:∃ A B,Bd A a∧Bd B b∧A+B < 800000∧(Int.gcd (a.num*b.num) ((a.den:Int)*b.den)).log2 < 700000
structure G3 (a b:Rat):Prop where
 ex:∃ A B K,Bd A a∧Bd B b∧A+B < 800000∧((a.den:Int)*b.num).natAbs < 2 ^ K∧K < 700000
end
end Lib
end Mir
namespace Mir
open PySem PySem.Spec PyProof.Rows L2
theorem Ai {d e f:D} {Q:D→D→D→Prop} (h:Q d e f):∃ d' e' f',[d,e,f]=[d',e',f']∧Q d' e' f':=⟨_,_,_,rfl,h⟩
namespace Lib
def rJ (r:Rat):Prop:=r.num.natAbs < 1000000∧r.den < 1000
theorem rJ.bd {r:Rat} (h:rJ r):Bd 20 r:=⟨by have:=h.1; omega,by have:=h.2; omega⟩
section
variable {Q:T→Sg→Prop} {X:Str→List (Str × D)→Sg→Prop}
local macro_rules | `(tactic| walk_at "cl")=>`(tactic| first
 | ((with_reducible refine rF ?_ ?_ fun _ _ _ _ _ _=>?_); (· walk_at "sd"); (· walk_at "sd"))
 | with_reducible refine Ai ?_
 | fail)
local macro_rules | `(tactic| walk_at "gc")=>`(tactic| repeat' first | walk_at "st" | walk_at "cl")
def Asc (x:Str):Prop:=∀ c∈TL.tl x,c < 0x110000
instance:Decidable (Asc x):=inferInstanceAs (Decidable (∀ c∈TL.tl x,c < 0x110000))
def lk:List (Str × Rat)→Str→Option Rat
 | [],_=>none
 | p :: t,s=>if p.1=s then some p.2 else lk t s
structure TabOk (b k:Nat) (ps t:List (Str × Rat)):Prop where
 nd:(t.map (·.1)).Nodup
 len:t.length≤k
 bd:∀ p∈t,Bd (1+k*(b+1)) p.2
 sub:∀ s,s∈t.map (·.1)↔s∈ps.map (·.1)
def pD (t:List (Str × Rat)):List (Str × Rat)→Rat
 | []=>0
 | p :: ts=>p.2*(lk t p.1).getD 0+pD t ts
structure Dd (t ts:List (Str × Rat)):Prop where
 ok:∀ k p r,ts[k]? = some p→lk t p.1=some r→Cr p.2 r∧Cq (pD t (ts.take k)) (p.2*r)
end
end Lib
end Mir
namespace Mir
open PySem PySem.Spec PyProof.Rows L2
namespace Lib
section
variable {Q:T→Sg→Prop} {X:Str→List (Str × D)→Sg→Prop}
local macro_rules | `(tactic| walk_at "cl")=>`(tactic| first
 | ((with_reducible refine rF ?_ ?_ fun _ _ _ _ _ _=>?_); (· walk_at "sd"); (· walk_at "sd"))
 | with_reducible refine Ai ?_
 | fail)
local macro_rules | `(tactic| walk_at "gc")=>`(tactic| repeat' first | walk_at "st" | walk_at "cl")
structure pF where
 ts:List (Str × Rat)
 sg:Str
 nb:Rat
 st:Nat
 wt:Rat
abbrev signs:List Str:=["<=","=",">="]
structure Dg (spots:List Str) (ts:List (Str × Rat)):Prop where
 fit:∀ p∈ts,p.1∈spots∧rJ p.2∧p.2≠0
 nd:(ts.map (·.1)).Nodup
 ri:(ts.map (·.1)).Pairwise (fun a b=>sle a b=true)
structure Gf (spots:List Str) (s:pF):Prop where
 ts:Dg spots s.ts
 len:s.ts.length≤8
 sg:s.sg∈signs
 nb:rJ s.nb
 st:s.st < 4
 wt:rJ s.wt
 pos:0 < s.wt
def uD (s:pF) (t:List (Str × Rat)):Rat :=
 if s.nb - pD t s.ts < 0 then (if s.sg = ">=" then 0 else -(s.nb - pD t s.ts)) else (if s.sg = "<=" then 0 else s.nb - pD t s.ts)
structure Aj (t:List (Str × Rat)) (s:pF):Prop where
 at' : Dd t s.ts
 sub:wN s.nb (pD t s.ts)
 neg:wN 0 (s.nb - pD t s.ts)
 le:∃ A,Bd A (s.nb - pD t s.ts)∧A < 700000
end
end Lib
end Mir
namespace Mir
open PySem PySem.Spec PyProof.Rows L2
namespace Lib
section
variable {Q:T→Sg→Prop} {X:Str→List (Str × D)→Sg→Prop}
local macro_rules | `(tactic| walk_at "cl")=>`(tactic| first
 | ((with_reducible refine vq ?_ ?_ ?_ fun _ _ _ _ _ _ _ _=>?_); (· walk_at "sd"); (· walk_at "sd"); (· walk_at "sd"))
 | with_reducible refine Ai ?_
 | fail)
local macro_rules | `(tactic| walk_at "gc")=>`(tactic| (walk_at "nf"; repeat' first | walk_at "st" | walk_at "cl"))
def dd:List Str→List Str→List Str
 | acc,[]=>acc
 | acc,s :: r=>dd (if s∈acc then acc else acc++[s]) r
structure Gm (s:pF):Prop where
 len:s.ts.length≤6
 bd:∀ p∈s.ts,Bd 127 p.2
 sg:s.sg∈signs
 nb:rJ s.nb
 st:s.st < 4
 wt:rJ s.wt
 pos:0 < s.wt
end
end Lib
end Mir
namespace Mir
open PySem PySem.Spec PyProof.Rows L2
namespace Lib
theorem v8 {xs:List D}:(T.own xs).kind = "list":=rfl
theorem v9 {xs:List (Key × D)}:(T.owd xs).kind = "dict":=rfl
section
variable {s:Sg} {X:Str→List (Str × D)→Sg→Prop} {Q:FQ}
theorem xZ {tab:Str→Option Bool} {i:Option Nat} {m:M Fl} {r:List Hn} {c:Str} {fs:List (Str × D)} (e:tab c=some true) (h:Wp (m (lg s c fs i)) (fun fl s=>Q fl (hdel s i)) NX):Wp (cO (⟨tab,i,m⟩ :: r) c fs s) Q X:=by
 unfold cO
 dsimp only
 rw [e]
 dsimp only
 cases hm:m (lg s c fs i) with
 | ok fl s'=>rw [hm] at h; exact h
 | exc c fs s'=>rw [hm] at h; exact h.elim
 | fail=>rw [hm] at h; exact h
theorem yc {tab:Str→Option Bool} {i:Option Nat} {m:M Fl} {r:List Hn} {c:Str} {fs:List (Str × D)} (e:tab c=some false) (h:Wp (cO r c fs s) Q X):Wp (cO (⟨tab,i,m⟩ :: r) c fs s) Q X:=by
 unfold cO
 dsimp only
 rw [e]
 exact h
end
theorem FP {as bs:List Ar} {n m:Nat} {r:Option (List T)} {ts:List T} {P:List T→Prop} (e1:as.length=n) (e2:bs.length=m) (e4:r=some ts) (h:P ts):(as.length=n∧bs.length=m)∧∃ ts,r=some ts∧P ts:=⟨⟨e1,e2⟩,_,e4,h⟩
theorem FT {b:Bool} {Q:D→Prop} (h:Q (.bl b)):∃ d,T.val (.bl b) = .val d∧d.DY=true∧Q d:=⟨_,rfl,rfl,h⟩
end Lib
end Mir
local macro_rules | `(tactic| walk_at "nx")=>`(tactic| try dsimp only [Mir.lg,Mir.hdel,List.map,Mir.aZ,Mir.qY,Mir.qZ,Mir.rA,Mir.frzT,Mir.bT,Mir.bW,List.set_cons_zero,List.set_cons_succ,List.set_nil,List.getElem?_cons_zero,List.getElem?_cons_succ])
local macro_rules | `(tactic| walk_at "xc")=>`(tactic| ((with_reducible first | (refine Mir.Lib.xZ rfl ?_) | (refine Mir.Lib.yc rfl ?_)); walk_at "nx"))
local macro_rules | `(tactic| walk_at "lf")=>`(tactic| with_reducible first | exact Mir.Lib.v8 | exact Mir.Lib.v9)
local macro_rules | `(tactic| walk_at "st")=>`(tactic| first | ((with_reducible apply Mir.Lib.FP); (exact rfl); (exact rfl); (exact rfl)) | with_reducible refine Mir.Lib.FT ?_)
namespace Mir
open PySem PySem.Spec PyProof.Rows L2
namespace Lib
def sumK (t:List (Str × Rat)) (k:Nat):List pF→Rat
 | []=>0
 | s :: r=>(if s.st=k then s.wt*uD s t else 0)+sumK t k r
structure Gn (bl:Nat) (t:List (Str × Rat)) (s:pF):Prop where
 ts:∀ p∈s.ts,Bd 20 p.2
 len:s.ts.length≤8
 key:∀ p∈s.ts,p.1∈t.map (·.1)
 nb:Bd 20 s.nb
 st:s.st < 4
 wt:Bd 20 s.wt
section
variable {Q:T→Sg→Prop} {X:Str→List (Str × D)→Sg→Prop}
variable {bl:Nat} {ss:List pF} {sd:D} {sy t:List (Str × Rat)}
structure Gp (ss:List pF) (sy t:List (Str × Rat)):Prop where
 st:∀ s∈ss,s.st < 4
 key:∀ s∈ss,∀ p∈s.ts,p.1∈t.map (·.1)
 miss:∀ s∈ss,Aj t s
 mul:∀ s∈ss,Cr s.wt (uD s t)
 add:∀ k q,ss[k]? = some q→Cq (sumK t q.st (ss.take k)) (q.wt*uD q t)
 far:∀ x r1 r2,lk sy x=some r1→lk t x=some r2→wN r2 r1∧wN 0 (r2 - r1)∧∃ A,Bd A (r2 - r1)∧A < 700000
end
structure Sh (B n W:Nat) (d:D):Prop where
 ok:d.qK=true
 sh:d.toQ.showable=true
 ls:d.toQ.leavesShort (B+8)=true
 dp:d.toQ.depth≤n
 wt:d.toQ.weight≤W
theorem Sh.up {B n W n' W' : Nat} {d:D} (h:Sh B n W d) (hn:n≤n') (hw:W≤W'):Sh B n' W' d:=⟨h.ok,h.sh,h.ls,Nat.le_trans h.dp hn,Nat.le_trans h.wt hw⟩
theorem vA {B:Nat} {i:Int} (h0:0 < B) (hB:B < 1900) (h:i.natAbs < 2 ^ B):Sh B 0 (B+1) (.int i):=by
 have hl:i.natAbs.log2 < B∨i.natAbs=0:=by
  by_cases z:i.natAbs=0
  ·exact .inr z
  ·exact .inl ((Nat.log2_lt z).2 h)
 have hl2:i.natAbs.log2 < B:=by
  rcases hl with h | h
  ·exact h
  ·rw [h]; exact h0
 refine ⟨rfl,?_,?_,Nat.le_refl _,?_⟩
 ·show decide (i.natAbs.log2 < 1920)=true
  exact decide_eq_true (by omega)
 ·show decide ((PyData.shown (.int i)).length≤B+8)=true
  refine decide_eq_true ?_
  have:=int_text_length_le (a:=i) h0 hl2
  have e:(PyData.shown (.int i)).length=(toString i).length:=by
   show (Str.ofString (toString i)).length=_
   rw [PySem.ofString_length]
  omega
 ·show (if i == 0 then 0 else i.natAbs.log2+1)≤B+1
  split <;> omega
theorem vB {B:Nat} {x:Str} (h:Asc x):Sh B 0 x.length (.str x):=by
 refine ⟨rfl,rfl,?_,Nat.le_refl _,Nat.le_refl _⟩
 show (x.cps.toList.all fun c=>decide (c < 16 ^ 8))=true
 refine List.all_eq_true.2 fun c hc=>decide_eq_true ?_
 have:=h c hc
 have:(16:Nat) ^ 8=4294967296:=by decide
 omega
theorem vC {B n W:Nat}:∀ {ds:List D},(∀ d∈ds,Sh B n W d)→D.jg ds=true∧PyData.showableAll (D.aG ds)=true∧PyData.leavesShortAll (B+8) (D.aG ds)=true∧PyData.depthAll (D.aG ds)≤n∧PyData.weightAll (D.aG ds)≤ds.length*(W+1)
 | [],_=>⟨rfl,rfl,rfl,Nat.zero_le _,Nat.zero_le _⟩
 | d :: ds,h=>by
  have hd:=h d (by simp)
  obtain ⟨h1,h2,h3,h4,h5⟩:=vC (ds:=ds) fun e he=>h e (by simp [he])
  refine ⟨?_,?_,?_,?_,?_⟩
  ·show (d.qK && D.jg ds)=true; rw [hd.ok,h1]; rfl
  ·show (d.toQ.showable && PyData.showableAll (D.aG ds))=true; rw [hd.sh,h2]; rfl
  ·show (d.toQ.leavesShort (B+8) && PyData.leavesShortAll (B+8) (D.aG ds))=true; rw [hd.ls,h3]; rfl
  ·show max d.toQ.depth (PyData.depthAll (D.aG ds))≤n; have:=hd.dp; omega
  ·show d.toQ.weight+1+PyData.weightAll (D.aG ds)≤_
   have:=hd.wt
   rw [List.length_cons,Nat.succ_mul]; omega
theorem vD {B n W:Nat} {ds:List D} (h:∀ d∈ds,Sh B n W d):Sh B (n+1) (ds.length*(W+1)) (.lst ds):=by
 obtain ⟨h1,h2,h3,h4,h5⟩:=vC h
 exact ⟨h1,h2,h3,Nat.succ_le_succ h4,h5⟩
structure G4 (B n W:Nat) (ds:List D):Prop where
 ok:D.jg ds=true
 sh:PyData.showableAll (D.aG ds)=true
 ls:PyData.leavesShortAll (B+8) (D.aG ds)=true
 dp:PyData.depthAll (D.aG ds)≤n
 wt:PyData.weightAll (D.aG ds)≤W
theorem Sh.repr {B n W:Nat} {d:D} (h:Sh B n W d) (hr:d.isRef=true) (hn:n < 20) (hW:(B+10)*W+(B+8)≤1000000):D.m9 d=some (.str d.toQ.shown):=by
 have hl:=PyData.shown_le (B+8) (by omega) d.toQ h.ls
 have:(B+8+2)*d.toQ.weight≤(B+10)*W:=Nat.mul_le_mul_left _ h.wt
 have hd:=h.dp
 unfold D.m9
 refine if_pos ?_
 unfold D.qM
 rw [hr,h.ok,h.sh,decide_eq_true (by omega),decide_eq_true (by omega)]; rfl
end Lib
end Mir
local macro_rules | `(tactic| walk_at "zv")=>`(tactic| (intro _; first | exact Or.inl rfl | exact Or.inr rfl))
namespace tL
open PySem PySem.Spec PyProof.Rows L2 Mir
variable {P:Program} {w:World} {K:PySem.W.Frag} {mg:Str→Option Value} {base:Heap} {f:Addr} {cdv:Value} {A:Around} {outer:List Env} {s:Shared} {H:Hp} {E:XK}
abbrev jV:List (Str × Bool):=[("BadText",true),("NoSaying",false),("Clash",false),("TooMany",false),("Held",false),("Over",false),("NoRow",false),("Nought",false),("NoSpot",false),("NoLabel",false)]
abbrev mJ:List (Str × Bool):=[("BadText",false),("NoSaying",false),("Clash",true),("TooMany",false),("Held",false),("Over",false),("NoRow",false),("Nought",false),("NoSpot",false),("NoLabel",false)]
abbrev oM:List (Str × Bool):=[("BadText",false),("NoSaying",false),("Clash",false),("TooMany",false),("Held",true),("Over",false),("NoRow",false),("Nought",false),("NoSpot",false),("NoLabel",false)]
abbrev d9:List (Str × Bool):=[("BadText",false),("NoSaying",false),("Clash",false),("TooMany",false),("Held",false),("Over",false),("NoRow",false),("Nought",false),("NoSpot",true),("NoLabel",false)]
abbrev eE:List (Str × Bool):=[("BadText",true),("NoSaying",true),("Clash",true),("TooMany",true),("Held",true),("Over",true),("NoRow",true),("Nought",false),("NoSpot",false),("NoLabel",false)]
abbrev gH:List (Str × Bool):=[("BadText",false),("NoSaying",false),("Clash",false),("TooMany",false),("Held",false),("Over",false),("NoRow",false),("Nought",false),("NoSpot",true),("NoLabel",true)]
abbrev jW:List (Str × Bool):=[("BadText",false),("NoSaying",false),("Clash",false),("TooMany",false),("Held",false),("Over",false),("NoRow",false),("Nought",false),("NoSpot",false),("NoLabel",true)]
abbrev mK:List (Str × Bool):=[("BadText",false),("NoSaying",false),("Clash",false),("TooMany",false),("Held",false),("Over",false),("NoRow",true),("Nought",false),("NoSpot",false),("NoLabel",false)]
abbrev jA:List (Str × Bool):=[("BadText",false),("NoSaying",true),("Clash",false),("TooMany",false),("Held",false),("Over",false),("NoRow",false),("Nought",false),("NoSpot",false),("NoLabel",false)]
abbrev lA:List (Str × Bool):=[("BadText",false),("NoSaying",false),("Clash",false),("TooMany",false),("Held",false),("Over",false),("NoRow",false),("Nought",false),("NoSpot",true),("NoLabel",false)]
abbrev lB:List (Str × Bool):=[("BadText",false),("NoSaying",false),("Clash",false),("TooMany",false),("Held",false),("Over",false),("NoRow",false),("Nought",true),("NoSpot",false),("NoLabel",false)]
abbrev oN:List (Str × Bool):=[("BadText",false),("NoSaying",false),("Clash",false),("TooMany",false),("Held",false),("Over",true),("NoRow",false),("Nought",false),("NoSpot",false),("NoLabel",false)]
abbrev jX:List (Str × Bool):=[("BadText",false),("NoSaying",false),("Clash",false),("TooMany",true),("Held",false),("Over",false),("NoRow",false),("Nought",false),("NoSpot",false),("NoLabel",false)]
abbrev iy:List (Str × Bool):=[("BadText",true),("NoSaying",true),("Clash",true),("TooMany",true),("Held",true),("Over",true),("NoRow",true),("Nought",false),("NoSpot",false),("NoLabel",false)]
abbrev bx:List (Str × Bool):=[("BadText",false),("NoSaying",false),("Clash",false),("TooMany",false),("Held",false),("Over",false),("NoRow",false),("Nought",true),("NoSpot",false),("NoLabel",false)]
abbrev uE:List (Str × Bool):=[("BadText",true)]
abbrev mO:List (Str × Bool):=[("NoLabel",true)]
abbrev rK:List (Str × Bool):=[("Clash",true)]
abbrev jF:List (Str × Bool):=[("TooMany",true)]
abbrev oO:List (Str × Bool):=[("NoSpot",true)]
abbrev oR:List (Str × Bool):=[("NoSaying",true)]
def topS (i : Nat) : Stmt := PySem.Challenge.pw_firmlay_k01_refusals.main.body.getD i (.Pass ⟨0, 0, 0, 0⟩)
abbrev bO:Stmt:=topS 13
theorem cY:FnScope ["_law_script","_law_k","_law_cell","_law_seed"] ["_law_script","_law_k"] (defScope bO):=⟨rfl,rfl,rfl,by decide +kernel,rfl,by decide +kernel,by decide +kernel⟩
noncomputable abbrev rM:M Fl:=Lib.nu
noncomputable abbrev fQ:Fn:=Lib.nA
def iz (K:PySem.W.Frag) (fd:FuncData):Prop:=KBd K fd ["_law_script","_law_k"] 2 [] (fun as _=>as) (fun vs _=>vs)
theorem oU (hr:Room 0 (A.deeper (envOfC "_law_feed" (defScope bO) s.heap.objs.size f cdv))) (og:mg "abs" = none) (oi:mg "int" = none) (b0:mg "len" = none) :
  cD (jy (cxOf (L2.CX P w) P w K mg base ["_law_script","_law_k","_law_cell","_law_seed"] "_law_feed" (defScope bO) f cdv A outer s H E)) [] (defBody bO) rM :=
 (au (aV (i:=2) (PM.f (aX (fun _ _ _=>bF) (bG _) (aX (fun _ _ _=>fD) (fG _) aq (aH 1)) (PM.b aq))) cY.nd rfl (by walk_at "zv"))
  (au (dF (gj 1 (fun _ _ _=>op_lt) (fZ _ lO) (PM.b (iI (fun _ _ _=>lD) (mU _) (fun _=>rfl) b0 (by decide +kernel) (aH 0))) (nomark _)) (aF (aV (i:=2) (PM.f (iI (fun _ _ _=>call_abs) (yE _) (fun _=>rfl) og (by decide +kernel) (PM.b (dX hr 0 (aH 1) (fun _ _=>rfl))))) cY.nd rfl (by walk_at "zv"))) (aF (dF (Mir.pt_cmp (fun _ _ _=>op_gt) (fZ _ oY) (iI (fun _ _ _=>lD) (mU _) (fun _=>rfl) b0 (by decide +kernel) (aH 0)) (PM.b aq) (nomark _)) (aF (aV (i:=2) (PM.f (dU 2 (fun _ _ _=>bF) (bG _) (PM.b (aX (fun _ _ _=>fD) (fG _) (aX (fun _ _ _=>op_modN) (fH _) (dX hr 0 (PM.b (dU 1 (fun _ _ _=>op_modN) (fH _) (PM.b (iI (fun _ _ _=>lD) (mU _) (fun _=>rfl) b0 (by decide +kernel) (aH 0))))) (fun _ _=>rfl)) (PM.b aq)) (PM.b aq))))) cY.nd rfl (by walk_at "zv"))) cI)))
  (au (aV (i:=3) (PM.f (aX (fun _ _ _=>bF) (bG _) (aX (fun _ _ _=>op_modN) (fH _) (aX (fun _ _ _=>bF) (bG _) (aX (fun _ _ _=>bF) (bG _) (aX (fun _ _ _=>fD) (fG _) (dU 2 (fun _ _ _=>op_modN) (fH _) (PM.b aq)) (PM.b aq)) (PM.b (aX (fun _ _ _=>fD) (fG _) aq (aH 1)))) (PM.b aq)) (PM.b aq)) (PM.b aq))) cY.nd rfl (by walk_at "zv"))
  (aF (bf (cP (ao (wC hr (PF.m (cP (ao aq (ao (aK 2) aQ)))) (PM.b (Ay (fun _ _ _=>wW) (yH _) (fun _=>rfl) oi (by decide +kernel) (PM.b (gh 2 (fun _ _ _=>op_ge) (fZ _ sS) (PM.b (aX (fun _ _ _=>op_pow) (sO _) aq (PM.b aq))) (nomark _))))) (fun _ _=>rfl)) (ao (aK 3) (ao aq aQ)))))))))
abbrev bA:Stmt:=topS 16
theorem cQ:FnScope ["_law_e","_law_own","_law_base"] ["_law_e"] (defScope bA):=⟨rfl,rfl,rfl,by decide +kernel,rfl,by decide +kernel,by decide +kernel⟩
noncomputable def j6:M Fl :=
 (aJ (bh 1 (dR (aC (m1 (D.gW jV) (aA 0)) (aC (m1 (D.gW jA) (aA 0)) (aC (m1 (D.gW mJ) (aA 0)) (aC (m1 (D.gW jX) (aA 0)) bL))))))
  (aJ (bh 1 (toT (aM D.add 1 (cW (dR (aC (m1 (D.gW oM) (aA 0)) (aC (m1 (D.gW oN) (aA 0)) (aC (m1 (D.gW mK) (aA 0)) bL))))))))
  (aJ (bh 1 (toT (aM D.add 1 (cW (dR (aC (m1 (D.gW lB) (aA 0)) (aC (m1 (D.gW lA) (aA 0)) (aC (m1 (D.gW jW) (aA 0)) bL))))))))
  (aJ (bh 2 (dR (aC (m1 (D.gW eE) (aA 0)) (aC (m1 (D.gW iy) (aA 0)) (aC (m1 (D.gW bx) (aA 0)) bL)))))
  (cG (toT (m2 D.add (aM D.add 1 (aA 2)) (cW (dR (aC (m1 (D.gW d9) (aA 0)) (aC (m1 (D.gW gH) (aA 0)) bL)))))))))))
noncomputable def cZ:Fn:=fnOf [] 1 3 j6
def gJ (K:PySem.W.Frag) (fd:FuncData):Prop:=KBd K fd ["_law_e"] 1 [] (fun as _=>as) (fun vs _=>vs)
theorem nO (hr:Room 0 (A.deeper (envOfC "_law_kinds" (defScope bA) s.heap.objs.size f cdv))) (aa:mg "isinstance" = none) (jY:Xt K mg "BadText" jV) (XT_Clash:Xt K mg "Clash" mJ) (XT_Held:Xt K mg "Held" oM) (XT_KeyError:Xt K mg "KeyError" d9) (XT_LayError:Xt K mg "LayError" eE) (XT_LookupError:Xt K mg "LookupError" gH) (XT_NoLabel:Xt K mg "NoLabel" jW) (XT_NoRow:Xt K mg "NoRow" mK) (XT_NoSaying:Xt K mg "NoSaying" jA) (XT_NoSpot:Xt K mg "NoSpot" lA) (XT_Nought:Xt K mg "Nought" lB) (XT_Over:Xt K mg "Over" oN) (XT_TooMany:Xt K mg "TooMany" jX) (XT_ValueError:Xt K mg "ValueError" iy) (XT_ZeroDivisionError:Xt K mg "ZeroDivisionError" bx) :
  cD (jy (cxOf (L2.CX P w) P w K mg base ["_law_e","_law_own","_law_base"] "_law_kinds" (defScope bA) f cdv A outer s H E)) [] (defBody bA) j6 :=
 (au (aV (i:=1) (cP (ao (bZ jY (fun _=>rfl) aa (fun _=>rfl) (aH 0)) (ao (bZ XT_NoSaying (fun _=>rfl) aa (fun _=>rfl) (aH 0)) (ao (bZ XT_Clash (fun _=>rfl) aa (fun _=>rfl) (aH 0)) (ao (bZ XT_TooMany (fun _=>rfl) aa (fun _=>rfl) (aH 0)) aQ))))) cQ.nd rfl (by walk_at "zv"))
  (au (aV (i:=1) (PM.f (dU 1 (fun _ _ _=>bF) (bG _) (PM.b (PF.m (cP (ao (bZ XT_Held (fun _=>rfl) aa (fun _=>rfl) (aH 0)) (ao (bZ XT_Over (fun _=>rfl) aa (fun _=>rfl) (aH 0)) (ao (bZ XT_NoRow (fun _=>rfl) aa (fun _=>rfl) (aH 0)) aQ)))))))) cQ.nd rfl (by walk_at "zv"))
  (au (aV (i:=1) (PM.f (dU 1 (fun _ _ _=>bF) (bG _) (PM.b (PF.m (cP (ao (bZ XT_Nought (fun _=>rfl) aa (fun _=>rfl) (aH 0)) (ao (bZ XT_NoSpot (fun _=>rfl) aa (fun _=>rfl) (aH 0)) (ao (bZ XT_NoLabel (fun _=>rfl) aa (fun _=>rfl) (aH 0)) aQ)))))))) cQ.nd rfl (by walk_at "zv"))
  (au (aV (i:=2) (cP (ao (bZ XT_LayError (fun _=>rfl) aa (fun _=>rfl) (aH 0)) (ao (bZ XT_ValueError (fun _=>rfl) aa (fun _=>rfl) (aH 0)) (ao (bZ XT_ZeroDivisionError (fun _=>rfl) aa (fun _=>rfl) (aH 0)) aQ)))) cQ.nd rfl (by walk_at "zv"))
  (aF (bf (PM.f (aX (fun _ _ _=>bF) (bG _) (dU 1 (fun _ _ _=>bF) (bG _) (aH 2)) (PM.b (PF.m (cP (ao (bZ XT_KeyError (fun _=>rfl) aa (fun _=>rfl) (aH 0)) (ao (bZ XT_LookupError (fun _=>rfl) aa (fun _=>rfl) (aH 0)) aQ)))))))))))))
abbrev bJ:Stmt:=topS 17
theorem jh:FnScope ["_law_at","_law_own","_law_other"] ["_law_at"] (defScope bJ):=⟨rfl,rfl,rfl,by decide +kernel,rfl,by decide +kernel,by decide +kernel⟩
noncomputable def lQ:M Fl :=
 (aJ (bh 1 (yN (iT (ret (.int 10))) (jC 2) (ret true) (aM D.eqO 2 (aA 0)) [2]))
  (cG (toT (aM D.add 1 (cW (dR (aC (aM (D.fX lO) 0 (ret (.int 7))) (aC (aM (D.fX lO) 0 (ret (.int 7))) (aC (aM D.eqO 0 (ret (.int 7))) (aC (aM D.eqO 0 (ret (.int 8))) (aC (aM D.yR 0 (gq (aC (ret (.int 8)) (aC (ret (.int 9)) bL)))) bL)))))))))))
noncomputable def eG:Fn:=fnOf [] 1 3 lQ
def ji (K:PySem.W.Frag) (fd:FuncData):Prop:=KBd K fd ["_law_at"] 1 [] (fun as _=>as) (fun vs _=>vs)
theorem pG (hr:Room 0 (A.deeper (envOfC "_law_due" (defScope bJ) s.heap.objs.size f cdv))) (aT:mg "range" = none) :
  cD (jy (cxOf (L2.CX P w) P w K mg base ["_law_at","_law_own","_law_other"] "_law_due" (defScope bJ) f cdv A outer s H E)) [] (defBody bJ) lQ :=
 (au (uU (i:=1) (own:=[("_law_other",2)]) rfl jh.nd rfl (fun _=>rfl) (fun _=>sw_true rfl rfl rfl (by decide +kernel)) (jK (fun _=>rfl) aT aq) (fun _=>blkOk_by (N:=["_law_at","_law_own","_law_other"]) (sc:=defScope bJ) (by decide +kernel)) (jd (i:=2) jh.nd rfl (by walk_at "zv")) vP (gh 2 (fun _ _ _=>(fK hr.units)) (fL _) (aH 0) (nomark _)) rfl)
  (aF (bf (PM.f (dU 1 (fun _ _ _=>bF) (bG _) (PM.b (PF.m (cP (ao (gh 0 (fun _ _ _=>op_lt) (fZ _ lO) (PM.b aq) (nomark _)) (ao (gh 0 (fun _ _ _=>op_lt) (fZ _ lO) (PM.b aq) (nomark _)) (ao (gh 0 (fun _ _ _=>(fK hr.units)) (fL _) (PM.b aq) (nomark _)) (ao (gh 0 (fun _ _ _=>(fK hr.units)) (fL _) (PM.b aq) (nomark _)) (ao (gh 0 (fun _ _ _=>(yU (hu_of hr))) (yV _) (PM.b (dW (ao aq (ao aq aQ)))) rfl) aQ)))))))))))))
abbrev bQ:Stmt:=topS 18
theorem bV:FnScope ["_law_at","_law_thing_here","_law_e"] ["_law_at","_law_thing_here"] (defScope bQ):=⟨rfl,rfl,rfl,by decide +kernel,rfl,by decide +kernel,by decide +kernel⟩
noncomputable def lC:M Fl :=
 (aJ (gU (bH (aM D.eqO 0 (ret (.int 0)))) ((aJ (bh 2 (toT (lu "BadText" "at" (aU 1))))
  (cG (toT (gq (aC (aU 2) (aC (m1 (D.jP uE "at") (aA 2)) bL))))))) (eY))
  (aJ (gU (bH (aM D.eqO 0 (ret (.int 1)))) ((aJ (bh 2 (toT (lu "NoSaying" "word" (aU 1))))
  (cG (toT (gq (aC (aU 2) (aC (m1 (D.jP oR "word") (aA 2)) bL))))))) (eY))
  (aJ (gU (bH (aM D.eqO 0 (ret (.int 2)))) ((aJ (bh 2 (toT (lu "Clash" "lot" (aU 1))))
  (cG (toT (gq (aC (aU 2) (aC (m1 (D.jP rK "lot") (aA 2)) bL))))))) (eY))
  (aJ (gU (bH (aM D.eqO 0 (ret (.int 3)))) ((aJ (bh 2 (toT (lu "TooMany" "most" (aU 1))))
  (cG (toT (gq (aC (aU 2) (aC (m1 (D.jP jF "most") (aA 2)) bL))))))) (eY))
  (aJ (gU (bH (aM D.eqO 0 (ret (.int 8)))) ((aJ (bh 2 (toT (lu "NoSpot" "spot" (aU 1))))
  (cG (toT (gq (aC (aU 2) (aC (m1 (D.jP oO "spot") (aA 2)) bL))))))) (eY))
  (aJ (gU (bH (aM D.eqO 0 (ret (.int 9)))) ((aJ (bh 2 (toT (lu "NoLabel" "label" (aU 1))))
  (cG (toT (gq (aC (aU 2) (aC (m1 (D.jP mO "label") (aA 2)) bL))))))) (eY))
  (cG (toT (gq (aC (m2 D.ix (cW (dR (aC (qT "Held") (aC (qT "Over") (aC (qT "NoRow") (aC (qT "Nought") bL)))))) (aM D.sub 0 (ret (.int 4)))) (aC (aU 1) bL)))))))))))
noncomputable def dH:Fn:=fnOf [] 2 3 lC
def iD (K:PySem.W.Frag) (fd:FuncData):Prop:=KBd K fd ["_law_at","_law_thing_here"] 2 [] (fun as _=>as) (fun vs _=>vs)
theorem oV (hr:Room 2 (A.deeper (envOfC "_law_made" (defScope bQ) s.heap.objs.size f cdv))) (XF_at:Xf K "at" uE) (XF_label:Xf K "label" mO) (XF_lot:Xf K "lot" rK) (XF_most:Xf K "most" jF) (XF_spot:Xf K "spot" oO) (XF_word:Xf K "word" oR) (E0_Held:kY K mg "Held") (E0_NoRow:kY K mg "NoRow") (E0_Nought:kY K mg "Nought") (E0_Over:kY K mg "Over") (cx:kZ P w K mg base "BadText" "at") (h9:kZ P w K mg base "Clash" "lot") (cy:qQ P w K mg base "NoLabel" "label") (b3:kZ P w K mg base "NoSaying" "word") (aI:qQ P w K mg base "NoSpot" "spot") (aB:kZ P w K mg base "TooMany" "most") :
  cD (jy (cxOf (L2.CX P w) P w K mg base ["_law_at","_law_thing_here","_law_e"] "_law_made" (defScope bQ) f cdv A outer s H E)) [] (defBody bQ) lC :=
 (au (dF (gj 0 (fun _ _ _=>(fK hr.units)) (fL _) (PM.b aq) (nomark _)) (au (aV (i:=2) (PM.f (lJ cx hr (by decide) (fun _=>rfl) (aK 1))) bV.nd rfl (by walk_at "zv"))
  (aF (bf (PM.f (dW (ao (aK 2) (ao (jf XF_at (aH 2)) aQ))))))) cI)
  (au (dF (gj 0 (fun _ _ _=>(fK hr.units)) (fL _) (PM.b aq) (nomark _)) (au (aV (i:=2) (PM.f (lJ b3 hr (by decide) (fun _=>rfl) (aK 1))) bV.nd rfl (by walk_at "zv"))
  (aF (bf (PM.f (dW (ao (aK 2) (ao (jf XF_word (aH 2)) aQ))))))) cI)
  (au (dF (gj 0 (fun _ _ _=>(fK hr.units)) (fL _) (PM.b aq) (nomark _)) (au (aV (i:=2) (PM.f (lJ h9 hr (by decide) (fun _=>rfl) (aK 1))) bV.nd rfl (by walk_at "zv"))
  (aF (bf (PM.f (dW (ao (aK 2) (ao (jf XF_lot (aH 2)) aQ))))))) cI)
  (au (dF (gj 0 (fun _ _ _=>(fK hr.units)) (fL _) (PM.b aq) (nomark _)) (au (aV (i:=2) (PM.f (lJ aB hr (by decide) (fun _=>rfl) (aK 1))) bV.nd rfl (by walk_at "zv"))
  (aF (bf (PM.f (dW (ao (aK 2) (ao (jf XF_most (aH 2)) aQ))))))) cI)
  (au (dF (gj 0 (fun _ _ _=>(fK hr.units)) (fL _) (PM.b aq) (nomark _)) (au (aV (i:=2) (PM.f (tK aI hr (by decide) (fun _=>rfl) (aK 1))) bV.nd rfl (by walk_at "zv"))
  (aF (bf (PM.f (dW (ao (aK 2) (ao (jf XF_spot (aH 2)) aQ))))))) cI)
  (au (dF (gj 0 (fun _ _ _=>(fK hr.units)) (fL _) (PM.b aq) (nomark _)) (au (aV (i:=2) (PM.f (tK cy hr (by decide) (fun _=>rfl) (aK 1))) bV.nd rfl (by walk_at "zv"))
  (aF (bf (PM.f (dW (ao (aK 2) (ao (jf XF_label (aH 2)) aQ))))))) cI)
  (aF (bf (PM.f (dW (ao (wC hr (PF.m (cP (ao (lK E0_Held (fun _=>rfl)) (ao (lK E0_Over (fun _=>rfl)) (ao (lK E0_NoRow (fun _=>rfl)) (ao (lK E0_Nought (fun _=>rfl)) aQ)))))) (PM.b (dU 0 (fun _ _ _=>op_sub) (sJ _) (PM.b aq))) (fun _ _=>rfl)) (ao (aK 1) aQ))))))))))))
abbrev bB:Stmt:=topS 19
theorem cR:FnScope ["_law_thing_here","_law_found","_law_e"] ["_law_thing_here"] (defScope bB):=⟨rfl,rfl,rfl,by decide +kernel,rfl,by decide +kernel,by decide +kernel⟩
noncomputable def j7:M Fl :=
 (aJ (bh 1 (dR bL))
  (aJ (uh ((lF "TooMany" "most" (aU 0))) (⟨dN eE,some 2,((pP (sV "list" gD 1 (m1 (D.jP jF "most") (aA 2)))))⟩ :: []))
  (aJ (uh ((lF "NoSpot" "spot" (aU 0))) (⟨dN d9,none,((pP (sV "list" gD 1 (aU 0))))⟩ :: []))
  (aJ (uh ((tE "Nought")) (⟨dN bx,none,((pP (sV "list" gD 1 (aU 0))))⟩ :: []))
  (cG (gM 1))))))
noncomputable def cH:Fn:=fnOf [] 1 3 j7
def gK (K:PySem.W.Frag) (fd:FuncData):Prop:=KBd K fd ["_law_thing_here"] 1 [] (fun as _=>as) (fun vs _=>vs)
theorem nQ (hr:Room 2 (A.deeper (envOfC "_law_taken" (defScope bB) s.heap.objs.size f cdv))) (XT_KeyError:Xt K mg "KeyError" d9) (XT_LayError:Xt K mg "LayError" eE) (XT_ZeroDivisionError:Xt K mg "ZeroDivisionError" bx) (XF_most:Xf K "most" jF) (E0_Nought:kY K mg "Nought") (aI:qQ P w K mg base "NoSpot" "spot") (aB:kZ P w K mg base "TooMany" "most") :
  cD (jy (cxOf (L2.CX P w) P w K mg base ["_law_thing_here","_law_found","_law_e"] "_law_taken" (defScope bB) f cdv A outer s H E)) [] (defBody bB) j7 :=
 (au (aV (i:=1) (cP aQ) cR.nd rfl (by walk_at "zv"))
  (au (oh (fun _=>rfl) (fun _=>rfl) cR.nd (fun _=>rfl) (aF (uW aB rfl hr (by decide) (fun _=>rfl) (aK 0))) (xJ 2 XT_LayError (fun _=>rfl) rfl (fun _=>rfl) (fun _=>(aF (lX (kE 1 (jf XF_most (aH 2)))))) mF))
  (au (oh (fun _=>rfl) (fun _=>rfl) cR.nd (fun _=>rfl) (aF (vf aI rfl hr (by decide) (fun _=>rfl) (aK 0))) (pB XT_KeyError (fun _=>rfl) (fun _=>(aF (lX (kE 1 (aK 0))))) mF))
  (au (oh (fun _=>rfl) (fun _=>rfl) cR.nd (fun _=>rfl) (aF (uV E0_Nought rfl (fun _=>rfl))) (pB XT_ZeroDivisionError (fun _=>rfl) (fun _=>(aF (lX (kE 1 (aK 0))))) mF))
  (aF (bf (uO 1)))))))
abbrev bR:Stmt:=topS 14
theorem iG:FnScope ["_law_feed_here","_law_many","_law_one","_law_digit"] ["_law_feed_here","_law_many"] (defScope bR):=⟨rfl,rfl,rfl,by decide +kernel,rfl,by decide +kernel,by decide +kernel⟩
noncomputable abbrev rN:M Fl:=Lib.nD
noncomputable abbrev cU:Fn:=Lib.nH
def dh (K:PySem.W.Frag) (fd:FuncData):Prop:=KBd K fd ["_law_feed_here","_law_many"] 2 [] (fun as _=>as) (fun vs _=>vs)
theorem oW (hr:Room 32 (A.deeper (envOfC "_law_draw" (defScope bR) s.heap.objs.size f cdv))) (hv:Dv P base) :
  cD (jy (cxOf (L2.CX P w) P w K mg base ["_law_feed_here","_law_many","_law_one","_law_digit"] "_law_draw" (defScope bR) f cdv A outer s H E)) [0] (defBody bR) rN :=
 (au (dF (Mir.pt_cmp (fun _ _ _=>op_gt) (fZ _ oY) (dX hr 0 (PM.b aq) (fun _ _=>rfl)) (PM.b aq) (nomark _)) (au (aV (i:=3) (PM.f (aX (fun _ _ _=>op_modN) (fH _) (dX hr 0 (PM.b aq) (fun _ _=>rfl)) (aH 1))) iG.nd rfl (by walk_at "zv"))
  (au (jJ hr 0 (aX (fun _ _ _=>(pY (zq hv hr (by decide) rfl rfl))) (pZ _) (dX hr 0 (PM.b aq) (fun _ _=>rfl)) (aH 1)) (PM.b aq))
  (aF (bf (uO 3))))) cI)
  (au (jJ hr 0 (aX (fun _ _ _=>bF) (bG _) (dX hr 0 (PM.b aq) (fun _ _=>rfl)) (PM.b aq)) (PM.b aq))
  (au (aV (i:=2) (PM.f (aX (fun _ _ _=>op_modN) (fH _) (aX (fun _ _ _=>fD) (fG _) (aX (fun _ _ _=>bF) (bG _) (dX hr 0 (PM.b aq) (fun _ _=>rfl)) (PM.b (aX (fun _ _ _=>fD) (fG _) aq (PM.b (dX hr 0 (PM.b aq) (fun _ _=>rfl)))))) (PM.b aq)) (PM.b aq))) iG.nd rfl (by walk_at "zv"))
  (au (jJ hr 0 (aX (fun _ _ _=>bF) (bG _) (aX (fun _ _ _=>op_modN) (fH _) (aX (fun _ _ _=>bF) (bG _) (dU 2 (fun _ _ _=>fD) (fG _) (PM.b aq)) (PM.b aq)) (PM.b aq)) (PM.b aq)) (PM.b aq))
  (aF (bf (PM.f (aX (fun _ _ _=>op_modN) (fH _) (aX (fun _ _ _=>(pY (zq hv hr (by decide) rfl rfl))) (pZ _) (aX (fun _ _ _=>bF) (bG _) (dU 2 (fun _ _ _=>fD) (fG _) (PM.b aq)) (PM.b (dX hr 0 (PM.b aq) (fun _ _=>rfl)))) (PM.b aq)) (aH 1)))))))))
abbrev bD:Stmt:=topS 15
theorem jG:FnScope ["_law_feed_here","_law_some"] ["_law_feed_here"] (defScope bD):=⟨rfl,rfl,rfl,by decide +kernel,rfl,by decide +kernel,by decide +kernel⟩
noncomputable def eX:M Fl :=
 (aJ (bh 1 (dR (aC (ret .non) (aC (ret (.bl true)) (aC (m2 D.sub (cW (cX 2 0 (fun as _=>as) cU (mX 0 (aVal (m2 D.pow (ret (.int 10)) (ret (.int 9))) bM)) bM)) (ret (.int 5))) (aC (ret (.str "")) (aC (ret (.str "a.left")) (aC (cW (dR (aC (cW (cX 2 0 (fun as _=>as) cU (mX 0 (aVal (ret (.int 9)) bM)) bM)) (aC (ret .non) bL)))) (aC (gq bL) (aC (gq (aC (ret (.str "b")) (aC (ret (.int 3)) bL))) bL))))))))))
  (cG (toT (aM D.ix 1 (cW (cX 2 0 (fun as _=>as) cU (mX 0 (aVal (ret (.int 8)) bM)) bM))))))
noncomputable def dw:Fn:=fnOf [0] 1 2 eX
def dO (K:PySem.W.Frag) (fd:FuncData):Prop:=KBd K fd ["_law_feed_here"] 1 [] (fun as _=>as) (fun vs _=>vs)
theorem nR (hr:Room 33 (A.deeper (envOfC "_law_thing" (defScope bD) s.heap.objs.size f cdv))) (az:Df P w K mg base 33 "_law_draw" ["_law_feed_here","_law_many"] cU (dh K)) :
  cD (jy (cxOf (L2.CX P w) P w K mg base ["_law_feed_here","_law_some"] "_law_thing" (defScope bD) f cdv A outer s H E)) [0] (defBody bD) eX :=
 (au (aV (i:=1) (cP (ao uH (ao pJ (ao (aX (fun _ _ _=>op_sub) (sJ _) (PF.m (cJ (az) (hr.mono (by decide)) (fun _=>rfl) (fun fd (h:dh _ fd)=>h) (mY 0 (dZ (aX (fun _ _ _=>op_pow) (sO _) aq (PM.b aq)) dY)))) (PM.b aq)) (ao pX (ao pX (ao (PF.m (cP (ao (PF.m (cJ (az) (hr.mono (by decide)) (fun _=>rfl) (fun fd (h:dh _ fd)=>h) (mY 0 (dZ aq dY)))) (ao uH aQ)))) (ao (dW aQ) (ao (dW (ao pX (ao aq aQ))) aQ))))))))) jG.nd rfl (by walk_at "zv"))
  (aF (bf (PM.f (dX hr 1 (PM.b (PF.m (cJ (az) (hr.mono (by decide)) (fun _=>rfl) (fun fd (h:dh _ fd)=>h) (mY 0 (dZ aq dY))))) (fun _ _=>rfl))))))
abbrev cV:Stmt:=topS 20
theorem dI:FnScope ["_law_script","_law_k","_law_feed_here","_law_at","_law_thing_here","_law_e","_law_kept"] ["_law_script"] (defScope cV):=⟨rfl,rfl,rfl,by decide +kernel,rfl,by decide +kernel,by decide +kernel⟩
noncomputable def lN:M Fl :=
 (aJ (qC (iT (m2 D.max (ret (.int 1)) (m2 D.min (ret (.int 5)) (m1 D.len (aA 0))))) (jC 1) ((aJ (bh 2 (cX 2 0 (fun as _=>as) fQ (aVal (aU 0) (aVal (aU 1) bM)) bM))
  (aJ (qC (iT (ret (.int 10))) (jC 3) ((aJ (bh 4 (cX 1 0 (fun as _=>as) dw (mX 2 bM) bM))
  (aJ (tY (wJ 2 (qw (jC 5) (qw (jC 6) wI))) (cW (cX 2 0 (fun as _=>as) dH (aVal (aU 3) (aVal (aU 4) bM)) bM)))
  (gU (uJ (bH (m2 D.neO (cW (cX 1 0 (fun as _=>as) cZ (aVal (aU 5) bM) bM)) (cW (cX 1 0 (fun as _=>as) eG (aVal (aU 3) bM) bM)))) (bH (m2 D.neO (m1 D.jT (aA 6)) (m1 D.jT (aA 4))))) ((cG (toT (ret (.bl false))))) (eY))))))
  (aJ (bh 4 (cX 1 0 (fun as _=>as) dw (mX 2 bM) bM))
  (gU (bH (m2 D.neO (m1 D.jT (cW (cX 1 0 (fun as _=>as) cH (aVal (aU 4) bM) bM))) (m1 D.jT (cW (dR (aC (aU 4) (aC (aU 4) (aC (aU 4) bL)))))))) ((cG (toT (ret (.bl false))))) (eY)))))))
  (cG (toT (ret (.bl true)))))
noncomputable def tM:Fn:=fnOf [] 1 7 lN
theorem vG (hr:Room 34 (A.deeper (envOfC "law" (defScope cV) s.heap.objs.size f cdv))) (hg:A.guards=some []) (b0:mg "len" = none) (oj:mg "max" = none) (ol:mg "min" = none) (aT:mg "range" = none) (cf:mg "repr" = none) (bN:Df P w K mg base 1 "_law_feed" ["_law_script","_law_k"] fQ (iz K)) (aE:Df P w K mg base 34 "_law_thing" ["_law_feed_here"] dw (dO K)) (bp:Df P w K mg base 1 "_law_kinds" ["_law_e"] cZ (gJ K)) (b4:Df P w K mg base 1 "_law_due" ["_law_at"] eG (ji K)) (bP:Df P w K mg base 3 "_law_made" ["_law_at","_law_thing_here"] dH (iD K)) (bq:Df P w K mg base 3 "_law_taken" ["_law_thing_here"] cH (gK K)) :
  cD (jy (cxOf (L2.CX P w) P w K mg base ["_law_script","_law_k","_law_feed_here","_law_at","_law_thing_here","_law_e","_law_kept"] "law" (defScope cV) f cdv A outer s H E)) [] (defBody cV) lN :=
 (au (sY rfl (jK (fun _=>rfl) aT (wF (fun _ _ _=>(call_max2 rfl)) (yF _) (fun _=>rfl) oj (by decide +kernel) aq (PM.b (wF (fun _ _ _=>(call_min2 rfl)) (yG _) (fun _=>rfl) ol (by decide +kernel) aq (PM.b (iI (fun _ _ _=>lD) (mU _) (fun _=>rfl) b0 (by decide +kernel) (aH 0))))))) (jd (i:=1) dI.nd rfl (by walk_at "zv")) (au (aV (i:=2) (cJ (bN) (hr.mono (by decide)) (fun _=>rfl) (fun fd (h:iz _ fd)=>h) (dZ (aK 0) (dZ (aK 1) dY))) dI.nd rfl (by walk_at "zv"))
  (au (sY rfl (jK (fun _=>rfl) aT aq) (jd (i:=3) dI.nd rfl (by walk_at "zv")) (au (aV (i:=4) (cJ (aE) (hr.mono (by decide)) (fun _=>rfl) (fun fd (h:dO _ fd)=>h) (mY 2 dY)) dI.nd rfl (by walk_at "zv"))
  (au (yK (wZ rfl (o9 (jd (i:=5) dI.nd rfl (by walk_at "zv")) (o9 (jd (i:=6) dI.nd rfl (by walk_at "zv")) vM))) (PF.m (cJ (bP) (hr.mono (by decide)) (fun _=>rfl) (fun fd (h:iD _ fd)=>h) (dZ (aK 3) (dZ (aK 4) dY)))))
  (aF (dF (sG.pt (yw (Mir.pt_cmp (fun _ _ _=>(qb hr.units)) (qj _) (PF.m (cJ (bp) (hr.mono (by decide)) (fun _=>rfl) (fun fd (h:gJ _ fd)=>h) (dZ (aK 5) dY))) (PM.b (PF.m (cJ (b4) (hr.mono (by decide)) (fun _=>rfl) (fun fd (h:ji _ fd)=>h) (dZ (aK 3) dY)))) (nomark _)) (wU (Mir.pt_cmp (fun _ _ _=>(qb hr.units)) (qj _) (iI (fun _ _ _=>iJ hg hr.units) (jU _) (fun _=>rfl) cf (by decide +kernel) (aH 6)) (PM.b (iI (fun _ _ _=>iJ hg hr.units) (jU _) (fun _=>rfl) cf (by decide +kernel) (aH 4))) (nomark _))))) (aF (bf (PM.f pJ))) cI)))))
  (au (aV (i:=4) (cJ (aE) (hr.mono (by decide)) (fun _=>rfl) (fun fd (h:dO _ fd)=>h) (mY 2 dY)) dI.nd rfl (by walk_at "zv"))
  (aF (dF (Mir.pt_cmp (fun _ _ _=>(qb hr.units)) (qj _) (iI (fun _ _ _=>iJ hg hr.units) (jU _) (fun _=>rfl) cf (by decide +kernel) (PM.b (PF.m (cJ (bq) (hr.mono (by decide)) (fun _=>rfl) (fun fd (h:gK _ fd)=>h) (dZ (aK 4) dY))))) (PM.b (iI (fun _ _ _=>iJ hg hr.units) (jU _) (fun _=>rfl) cf (by decide +kernel) (PM.b (PF.m (cP (ao (aK 4) (ao (aK 4) (ao (aK 4) aQ)))))))) (nomark _)) (aF (bf (PM.f pJ))) cI))))))
  (aF (bf (PM.f pJ))))end tL
namespace tL
open PySem PySem.Spec PyProof.Rows L2 Mir Mir.Lib
section
variable {Q:T→Sg→Prop} {X:Str→List (Str × D)→Sg→Prop}
theorem Ak:fQ=nA:=rfl
theorem Am:cU=nH:=rfl
theorem pQ {f:Fn} {ts:List T} {t:T} {o:Sg} (e:f ts = .ok t o) (h:Q t o):Sp f ts Q X:=⟨by rw [e]; exact h⟩
@[irreducible] noncomputable def wg:Fn:=eG
@[irreducible] noncomputable def rO:Fn:=cZ
@[irreducible] noncomputable def uF:Fn:=dH
@[irreducible] noncomputable def rP:Fn:=cH
theorem wO:eG=wg:=by unfold wg; rfl
theorem tO:cZ=rO:=by unfold rO; rfl
theorem vH:dH=uF:=by unfold uF; rfl
theorem tQ:cH=rP:=by unfold rP; rfl
theorem Ao (d:D):cH [.val d] = .ok (.own [d,d,d]) [none]:=rfl
theorem taken (d:D):rP [.val d] = .ok (.own [d,d,d]) [none]:=by rw [← tQ]; exact Ao d
theorem each {k:Nat} (h:k < 10) (d:D):∃ c ns ds,uF [.val (.int (k:Int)),.val d] = .ok (.val (.tup [.exn c ns ds,d])) [none,none] ∧
  ∃ l,rO [.val (.exn c ns ds)] = .ok (.val (.lst l)) [none]∧wg [.val (.int (k:Int))] = .ok (.val (.lst l)) [none]∧D.neO (.lst l) (.lst l)=some (.bl false):=by
 rw [← vH,← tO,← wO]
 obtain rfl | rfl | rfl | rfl | rfl | rfl | rfl | rfl | rfl | rfl:k=0∨k=1∨k=2∨k=3∨k=4∨k=5∨k=6∨k=7∨k=8∨k=9:=by omega
 all_goals exact ⟨_,_,_,rfl,_,rfl,rfl,rfl⟩
structure tR (d:D):Prop where
 rp:∃ x,d.jT=some (.str x)
 sh:Sh 40 1 300 d
theorem oX {d:D} (h:Sh 40 1 300 d) (hr:d.isRef=true):tR d:=by
 refine ⟨⟨d.toQ.shown,?_⟩,h⟩
 have:=h.repr hr (by decide) (by decide)
 cases d <;> first | exact this | cases hr
theorem yd {i:Int} (h:i.natAbs < 2 ^ 40):tR (.int i):=by
 refine ⟨⟨Str.ofString (toString i),if_pos ?_⟩,(vA (B:=40) (by decide) (by decide) h).up (by decide) (by decide)⟩
 by_cases z:i.natAbs=0
 ·rw [z]; decide
 ·exact Nat.lt_of_lt_of_le ((Nat.log2_lt z).2 h) (by decide)
theorem vI:Sh 40 0 100 .non:=⟨rfl,rfl,by decide +kernel,by decide +kernel,by decide +kernel⟩
theorem Aq:Sh 40 0 100 (.bl true):=⟨rfl,rfl,by decide +kernel,by decide +kernel,by decide +kernel⟩
theorem yg:tR (.str ""):=⟨⟨reprText "",(if_pos (by decide +kernel):(if (reprText ("" : Str)).length≤1000000 then some (D.str (reprText "")) else none)=_)⟩,(vB (by decide +kernel)).up (by decide) (by decide +kernel)⟩
theorem Av:tR (.str "a.left"):=⟨⟨reprText "a.left",(if_pos (by decide +kernel):(if (reprText ("a.left" : Str)).length≤1000000 then some (D.str (reprText "a.left")) else none)=_)⟩,(vB (by decide +kernel)).up (by decide) (by decide +kernel)⟩
theorem yh {i:Int} (h:i.natAbs < 2 ^ 40):tR (.lst [.int i,.non]):=oX ((vD (B:=40) (n:=0) (W:=100) (ds:=[.int i,.non]) fun d hd=>by
 simp only [List.mem_cons,List.not_mem_nil,or_false] at hd
 rcases hd with rfl | rfl
 ·exact (vA (B:=40) (by decide) (by decide) h).up (by decide) (by decide)
 ·exact vI).up (by decide) (show 2*(100+1)≤300 by decide)) rfl
theorem wj {x0 x1 x2 x3 x4 x5 x6 x7:D} {k:Int} {Q:D→Prop} (h0:0≤k) (h1:k < 8) (q:∀ t,t=x0∨t=x1∨t=x2∨t=x3∨t=x4∨t=x5∨t=x6∨t=x7→Q t):∃ d,D.ix (.lst [x0,x1,x2,x3,x4,x5,x6,x7]) (.int k)=some d∧Q d:=by
 obtain rfl | rfl | rfl | rfl | rfl | rfl | rfl | rfl:k=0∨k=1∨k=2∨k=3∨k=4∨k=5∨k=6∨k=7:=by omega
 all_goals exact ⟨_,rfl,q _ (by simp)⟩
local macro_rules | `(tactic| walk_at "cl")=>`(tactic| first
 | ((with_reducible refine rF ?_ ?_ fun _ _ _ _ _ _=>?_); (· walk_at "sd"); (· walk_at "sd"))
 | fail)
local macro_rules | `(tactic| walk_at "gc")=>`(tactic| (walk_at "nx"; repeat' first | walk_at "st" | walk_at "cl"))
theorem tU {a b c:Int} (h:∀ d a' b' c',tR d→Q (.val d) [some (fd a' b' c')]):Sp dw [fd a b c] Q X:=by
 refine nq rfl ?_
 show Wp (eX [some (fd a b c),none]) _ _
 unfold eX
 rw [Am]
 walk_at "gc"
 rename_i r a b c hr0 hr1 q a b c hq0 hq1 v a b c hv0 hv1
 refine wj hv0 hv1 fun t ht=>?_
 refine h _ _ _ _ ?_
 rcases ht with rfl | rfl | rfl | rfl | rfl | rfl | rfl | rfl
 ·exact ⟨⟨_,rfl⟩,vI.up (by decide) (by decide)⟩
 ·exact ⟨⟨_,rfl⟩,Aq.up (by decide) (by decide)⟩
 ·have e9:(10:Int) ^ Int.toNat 9=1000000000:=by decide
  rw [e9] at hr1
  exact yd (by omega)
 ·exact yg
 ·exact Av
 ·exact yh (by omega)
 ·exact oX ⟨rfl,rfl,by decide +kernel,by decide +kernel,by decide +kernel⟩ rfl
 ·exact oX ⟨rfl,rfl,by decide +kernel,by decide +kernel,by decide +kernel⟩ rfl
theorem BX (ns:List Int):Sp tM [.val (.scr ns)] (fun t o=>t = .val (.bl true)) NX:=by
 refine nq rfl ?_
 show Wp (lN [some (.val (.scr ns)),none,none,none,none,none,none]) _ _
 unfold lN
 rw [Ak,wO,tO,vH,tQ]
 walk_at "gc"
 refine ⟨fun _ s=>∃ x1 x2 x3 x4 x5 x6,s=[some (.val (.scr ns)),x1,x2,x3,x4,x5,x6],⟨_,_,_,_,_,_,rfl⟩,?_,?_⟩
 ·rintro k d s hd ⟨x1,x2,x3,x4,x5,x6,rfl⟩
  obtain rfl:d = .int k:=by
   obtain ⟨h1,h2⟩:=List.getElem?_eq_some_iff.1 hd
   rw [← h2]; simp [fM]
  refine ⟨_,rfl,?_⟩
  walk_at "gc"
  refine Ae (by omega) fun a b=>?_
  walk_at "gc"
  refine ⟨fun _ s=>∃ a b c x3 x4 x5 x6,s=[some (.val (.scr ns)),some (.val (.int k)),some (fd a b c),x3,x4,x5,x6],⟨_,_,_,_,_,_,_,rfl⟩,?_,?_⟩
  ·rintro j d s hd ⟨a,b,c,x3,x4,x5,x6,rfl⟩
   have hj:j < 10:=by
    have:=(List.getElem?_eq_some_iff.1 hd).1
    simp only [fM,List.length_map,List.length_range] at this
    omega
   obtain rfl:d = .int j:=by
    obtain ⟨h1,h2⟩:=List.getElem?_eq_some_iff.1 hd
    rw [← h2]; simp [fM]
   refine ⟨_,rfl,?_⟩
   walk_at "gc"
   refine tU fun d a b c hd=>?_
   obtain ⟨cn,nsf,dsf,e1,l,e2,e3,e4⟩:=each hj d
   obtain ⟨x,hx⟩:=hd.rp
   walk_at "gc"
   refine pQ e1 ?_
   walk_at "gc"
   refine pQ e2 ?_
   walk_at "gc"
   refine pQ e3 ?_
   walk_at "gc"
   refine ⟨_,e4,?_⟩
   walk_at "gc"
   refine ⟨_,hx,?_⟩
   walk_at "gc"
   refine ⟨_,hx,?_⟩
   walk_at "gc"
   exact ⟨_,_,_,_,_,_,_,rfl⟩
  ·rintro s ⟨a,b,c,x3,x4,x5,x6,rfl⟩
   walk_at "gc"
   refine tU fun d a b c hd=>?_
   walk_at "gc"
   refine pQ (taken d) ?_
   have hl:D.jT (.lst [d,d,d])=some (.str (D.toQ (.lst [d,d,d])).shown):=(vD (ds:=[d,d,d]) fun z hz=>by
    simp only [List.mem_cons,List.not_mem_nil,or_false,or_self] at hz
    rw [hz]; exact hd.sh).repr rfl (by decide) (show 50*(3*(300+1))+48≤1000000 by decide)
   walk_at "gc"
   refine ⟨_,hl,?_⟩
   walk_at "gc"
   refine ⟨_,hl,?_⟩
   walk_at "gc"
   exact ⟨_,_,_,_,_,_,rfl⟩
 ·rintro s ⟨x1,x2,x3,x4,x5,x6,rfl⟩
  walk_at "gc"
  rfl
theorem wk (ns:List Int) (hl:ns.length≤63) (hb:∀ z∈ns,Builtin.Int.intBits z≤1048576):∃ outs,tM [.val (.scr ns)] = .ok (.val (.bl true)) outs:=by
 obtain ⟨_,o,e,rfl⟩:=(BX ns).eq
 exact ⟨o,e⟩
end
end tL
namespace tL
open PySem PySem.Spec PyProof.Rows L2 Mir
abbrev fU:Stmt:=(lH (topS 2)).getD 0 (.Pass ⟨0,0,0,0⟩)
theorem rR:FnScope ["self","at"] ["self","at"] (defScope fU):=⟨rfl,rfl,rfl,by decide +kernel,rfl,by decide +kernel,by decide +kernel⟩
abbrev jk:Stmt:=(lH (topS 4)).getD 0 (.Pass ⟨0,0,0,0⟩)
theorem vJ:FnScope ["self","lot"] ["self","lot"] (defScope jk):=⟨rfl,rfl,rfl,by decide +kernel,rfl,by decide +kernel,by decide +kernel⟩
abbrev fV:Stmt:=(lH (topS 11)).getD 0 (.Pass ⟨0,0,0,0⟩)
theorem rW:FnScope ["self","label"] ["self","label"] (defScope fV):=⟨rfl,rfl,rfl,by decide +kernel,rfl,by decide +kernel,by decide +kernel⟩
abbrev eO:Stmt:=(lH (topS 3)).getD 0 (.Pass ⟨0,0,0,0⟩)
theorem rQ:FnScope ["self","word"] ["self","word"] (defScope eO):=⟨rfl,rfl,rfl,by decide +kernel,rfl,by decide +kernel,by decide +kernel⟩
abbrev gY:Stmt:=(lH (topS 10)).getD 0 (.Pass ⟨0,0,0,0⟩)
theorem uG:FnScope ["self","spot"] ["self","spot"] (defScope gY):=⟨rfl,rfl,rfl,by decide +kernel,rfl,by decide +kernel,by decide +kernel⟩
abbrev fW:Stmt:=(lH (topS 5)).getD 0 (.Pass ⟨0,0,0,0⟩)
theorem rY:FnScope ["self","most"] ["self","most"] (defScope fW):=⟨rfl,rfl,rfl,by decide +kernel,rfl,by decide +kernel,by decide +kernel⟩
theorem all_mk {l:PySem.W.OpenLaw} {w:World} {K:PySem.W.Frag} {h:Heap} {mg:Str→Option Value} {fa:Addr} (X:K.In h) (G:h.Ns mainGlobals mg) (hfa:mg "law" = some (.ref fa))
  {f0:Addr} {od0 an0:Option Addr} {sl0:Array (Option Value)} {oc0 kV0 dc0 pm0 cd0 ct0:Value}
  {f1:Addr} {od1 an1:Option Addr} {sl1:Array (Option Value)} {oc1 kV1 dc1 pm1 cd1 ct1:Value}
  {f2:Addr} {od2 an2:Option Addr} {sl2:Array (Option Value)} {oc2 kV2 dc2 pm2 cd2 ct2:Value}
  {f3:Addr} {od3 an3:Option Addr} {sl3:Array (Option Value)} {oc3 kV3 dc3 pm3 cd3 ct3:Value}
  {f4:Addr} {od4 an4:Option Addr} {sl4:Array (Option Value)} {oc4 kV4 dc4 pm4 cd4 ct4:Value}
  {f5:Addr} {od5 an5:Option Addr} {sl5:Array (Option Value)} {oc5 kV5 dc5 pm5 cd5 ct5:Value}
  {f6:Addr} {od6 an6:Option Addr} {sl6:Array (Option Value)} {oc6 kV6 dc6 pm6 cd6 ct6:Value}
  {f7:Addr} {od7 an7:Option Addr} {sl7:Array (Option Value)} {oc7 kV7 dc7 pm7 cd7 ct7:Value}
  {C_LayError:Addr}
  {C_BadText:Addr}
  {C_NoSaying:Addr}
  {C_Clash:Addr}
  {C_TooMany:Addr}
  {C_Held:Addr}
  {C_Over:Addr}
  {C_NoRow:Addr}
  {C_Nought:Addr}
  {C_NoSpot:Addr}
  {C_NoLabel:Addr}
  {nm_BadText om:Str} {N_BadText fI_BadText:Addr} {bs_BadText bm_BadText sub_BadText:List Value} {on:List Str} {oq:Bool} {col_BadText:Option Bool} {oy:Option Addr} {k0_BadText k1_BadText k2_BadText k3_BadText k5_BadText:Option Value}
  {ioc_BadText:Value} {iod_BadText ian_BadText:Option Addr} {isl_BadText:Array (Option Value)} {ikV_BadText idc_BadText ipm_BadText icd_BadText ict_BadText:Value}
  {nm_Clash rg:Str} {N_Clash fI_Clash:Addr} {bs_Clash bm_Clash sub_Clash:List Value} {rh:List Str} {rj:Bool} {col_Clash:Option Bool} {rl:Option Addr} {k0_Clash k1_Clash k2_Clash k3_Clash k5_Clash:Option Value}
  {ioc_Clash:Value} {iod_Clash ian_Clash:Option Addr} {isl_Clash:Array (Option Value)} {ikV_Clash idc_Clash ipm_Clash icd_Clash ict_Clash:Value}
  {nm_NoLabel oz:Str} {N_NoLabel fI_NoLabel:Addr} {bs_NoLabel bm_NoLabel sub_NoLabel:List Value} {oB:List Str} {oC:Bool} {col_NoLabel:Option Bool} {oD:Option Addr} {k0_NoLabel k1_NoLabel k2_NoLabel k3_NoLabel k5_NoLabel:Option Value}
  {ioc_NoLabel:Value} {iod_NoLabel ian_NoLabel:Option Addr} {isl_NoLabel:Array (Option Value)} {ikV_NoLabel idc_NoLabel ipm_NoLabel icd_NoLabel ict_NoLabel:Value}
  {nm_NoSaying nt:Str} {N_NoSaying fI_NoSaying:Addr} {bs_NoSaying bm_NoSaying sub_NoSaying:List Value} {ny:List Str} {nz:Bool} {col_NoSaying:Option Bool} {nC:Option Addr} {k0_NoSaying k1_NoSaying k2_NoSaying k3_NoSaying k5_NoSaying:Option Value}
  {ioc_NoSaying:Value} {iod_NoSaying ian_NoSaying:Option Addr} {isl_NoSaying:Array (Option Value)} {ikV_NoSaying idc_NoSaying ipm_NoSaying icd_NoSaying ict_NoSaying:Value}
  {nm_NoSpot qr:Str} {N_NoSpot fI_NoSpot:Addr} {bs_NoSpot bm_NoSpot sub_NoSpot:List Value} {qs:List Str} {qt:Bool} {col_NoSpot:Option Bool} {qv:Option Addr} {k0_NoSpot k1_NoSpot k2_NoSpot k3_NoSpot k5_NoSpot:Option Value}
  {ioc_NoSpot:Value} {iod_NoSpot ian_NoSpot:Option Addr} {isl_NoSpot:Array (Option Value)} {ikV_NoSpot idc_NoSpot ipm_NoSpot icd_NoSpot ict_NoSpot:Value}
  {nm_TooMany oI:Str} {N_TooMany fI_TooMany:Addr} {bs_TooMany bm_TooMany sub_TooMany:List Value} {oL:List Str} {oP:Bool} {col_TooMany:Option Bool} {oQ:Option Addr} {k0_TooMany k1_TooMany k2_TooMany k3_TooMany k5_TooMany:Option Value}
  {ioc_TooMany:Value} {iod_TooMany ian_TooMany:Option Addr} {isl_TooMany:Array (Option Value)} {ikV_TooMany idc_TooMany ipm_TooMany icd_TooMany ict_TooMany:Value}
  (a0:PySem.W.nsIn K mainGlobals "_law_feed" = some (some (.ref f0))) (l0:K.lookup f0=some ⟨oc0,od0,.func (PySem.W.fnOf "_law_feed" "_law_feed" (defArgs bO) (defBody bO) (defScope bO) .none kV0 dc0 pm0 an0 cd0 ct0),sl0⟩) (c0:PySem.W.codeIn K cd0 "_law_feed" = true) (k0:PySem.W.keepIn K (.ref f0)=true)
  (a1:PySem.W.nsIn K mainGlobals "_law_draw" = some (some (.ref f1))) (l1:K.lookup f1=some ⟨oc1,od1,.func (PySem.W.fnOf "_law_draw" "_law_draw" (defArgs bR) (defBody bR) (defScope bR) .none kV1 dc1 pm1 an1 cd1 ct1),sl1⟩) (c1:PySem.W.codeIn K cd1 "_law_draw" = true) (k1:PySem.W.keepIn K (.ref f1)=true)
  (a2:PySem.W.nsIn K mainGlobals "_law_thing" = some (some (.ref f2))) (l2:K.lookup f2=some ⟨oc2,od2,.func (PySem.W.fnOf "_law_thing" "_law_thing" (defArgs bD) (defBody bD) (defScope bD) .none kV2 dc2 pm2 an2 cd2 ct2),sl2⟩) (c2:PySem.W.codeIn K cd2 "_law_thing" = true) (k2:PySem.W.keepIn K (.ref f2)=true)
  (a3:PySem.W.nsIn K mainGlobals "_law_kinds" = some (some (.ref f3))) (l3:K.lookup f3=some ⟨oc3,od3,.func (PySem.W.fnOf "_law_kinds" "_law_kinds" (defArgs bA) (defBody bA) (defScope bA) .none kV3 dc3 pm3 an3 cd3 ct3),sl3⟩) (c3:PySem.W.codeIn K cd3 "_law_kinds" = true) (k3:PySem.W.keepIn K (.ref f3)=true)
  (a4:PySem.W.nsIn K mainGlobals "_law_due" = some (some (.ref f4))) (l4:K.lookup f4=some ⟨oc4,od4,.func (PySem.W.fnOf "_law_due" "_law_due" (defArgs bJ) (defBody bJ) (defScope bJ) .none kV4 dc4 pm4 an4 cd4 ct4),sl4⟩) (c4:PySem.W.codeIn K cd4 "_law_due" = true) (k4:PySem.W.keepIn K (.ref f4)=true)
  (a5:PySem.W.nsIn K mainGlobals "_law_made" = some (some (.ref f5))) (l5:K.lookup f5=some ⟨oc5,od5,.func (PySem.W.fnOf "_law_made" "_law_made" (defArgs bQ) (defBody bQ) (defScope bQ) .none kV5 dc5 pm5 an5 cd5 ct5),sl5⟩) (c5:PySem.W.codeIn K cd5 "_law_made" = true) (k5:PySem.W.keepIn K (.ref f5)=true)
  (a6:PySem.W.nsIn K mainGlobals "_law_taken" = some (some (.ref f6))) (l6:K.lookup f6=some ⟨oc6,od6,.func (PySem.W.fnOf "_law_taken" "_law_taken" (defArgs bB) (defBody bB) (defScope bB) .none kV6 dc6 pm6 an6 cd6 ct6),sl6⟩) (c6:PySem.W.codeIn K cd6 "_law_taken" = true) (k6:PySem.W.keepIn K (.ref f6)=true)
  (a7:PySem.W.nsIn K mainGlobals "law" = some (some (.ref f7))) (l7:K.lookup f7=some ⟨oc7,od7,.func (PySem.W.fnOf "law" "law" (defArgs cV) (defBody cV) (defScope cV) .none kV7 dc7 pm7 an7 cd7 ct7),sl7⟩) (c7:PySem.W.codeIn K cd7 "law" = true) (k7:PySem.W.keepIn K (.ref f7)=true)
  (n_LayError:PySem.W.nsIn K mainGlobals "LayError" = some (some (.ref C_LayError)))
  (n_BadText:PySem.W.nsIn K mainGlobals "BadText" = some (some (.ref C_BadText)))
  (n_NoSaying:PySem.W.nsIn K mainGlobals "NoSaying" = some (some (.ref C_NoSaying)))
  (n_Clash:PySem.W.nsIn K mainGlobals "Clash" = some (some (.ref C_Clash)))
  (n_TooMany:PySem.W.nsIn K mainGlobals "TooMany" = some (some (.ref C_TooMany)))
  (n_Held:PySem.W.nsIn K mainGlobals "Held" = some (some (.ref C_Held)))
  (n_Over:PySem.W.nsIn K mainGlobals "Over" = some (some (.ref C_Over)))
  (n_NoRow:PySem.W.nsIn K mainGlobals "NoRow" = some (some (.ref C_NoRow)))
  (n_Nought:PySem.W.nsIn K mainGlobals "Nought" = some (some (.ref C_Nought)))
  (n_NoSpot:PySem.W.nsIn K mainGlobals "NoSpot" = some (some (.ref C_NoSpot)))
  (n_NoLabel:PySem.W.nsIn K mainGlobals "NoLabel" = some (some (.ref C_NoLabel)))
  (ae:j5 K C_BadText=true)
  (ad:j5 K C_NoSaying=true)
  (ap:j5 K C_Clash=true)
  (af:j5 K C_TooMany=true)
  (ax:j5 K C_Held=true)
  (ay:j5 K C_Over=true)
  (aw:j5 K C_NoRow=true)
  (ai:j5 K C_Nought=true)
  (am:j5 K C_NoSpot=true)
  (ah:j5 K C_NoLabel=true)
  (oS:PySem.W.kitOne K (.type "NoneType") (.ref C_BadText)=some false)
  (eF:PySem.W.exmOne K (.ref C_NoLabel) (.ref C_BadText)=some false) (eI:PySem.W.kitOne K (.ref C_NoLabel) (.ref C_BadText)=some false)
  (gf:PySem.W.exmOne K (.ref C_NoSpot) (.ref C_BadText)=some false) (gi:PySem.W.kitOne K (.ref C_NoSpot) (.ref C_BadText)=some false)
  (gl:PySem.W.exmOne K (.ref C_Nought) (.ref C_BadText)=some false) (gm:PySem.W.kitOne K (.ref C_Nought) (.ref C_BadText)=some false)
  (ia:PySem.W.exmOne K (.ref C_NoRow) (.ref C_BadText)=some false) (ib:PySem.W.kitOne K (.ref C_NoRow) (.ref C_BadText)=some false)
  (ke:PySem.W.exmOne K (.ref C_Over) (.ref C_BadText)=some false) (kf:PySem.W.kitOne K (.ref C_Over) (.ref C_BadText)=some false)
  (kg:PySem.W.exmOne K (.ref C_Held) (.ref C_BadText)=some false) (ki:PySem.W.kitOne K (.ref C_Held) (.ref C_BadText)=some false)
  (eJ:PySem.W.exmOne K (.ref C_TooMany) (.ref C_BadText)=some false) (eK:PySem.W.kitOne K (.ref C_TooMany) (.ref C_BadText)=some false)
  (ic:PySem.W.exmOne K (.ref C_Clash) (.ref C_BadText)=some false) (ie:PySem.W.kitOne K (.ref C_Clash) (.ref C_BadText)=some false)
  (df:PySem.W.exmOne K (.ref C_NoSaying) (.ref C_BadText)=some false) (dg:PySem.W.kitOne K (.ref C_NoSaying) (.ref C_BadText)=some false)
  (eL:PySem.W.exmOne K (.ref C_BadText) (.ref C_BadText)=some true) (eM:PySem.W.kitOne K (.ref C_BadText) (.ref C_BadText)=some true)
  (rm:PySem.W.kitOne K (.type "NoneType") (.ref C_Clash)=some false)
  (ii:PySem.W.exmOne K (.ref C_NoLabel) (.ref C_Clash)=some false) (ij:PySem.W.kitOne K (.ref C_NoLabel) (.ref C_Clash)=some false)
  (kj:PySem.W.exmOne K (.ref C_NoSpot) (.ref C_Clash)=some false) (kl:PySem.W.kitOne K (.ref C_NoSpot) (.ref C_Clash)=some false)
  (km:PySem.W.exmOne K (.ref C_Nought) (.ref C_Clash)=some false) (kn:PySem.W.kitOne K (.ref C_Nought) (.ref C_Clash)=some false)
  (lm:PySem.W.exmOne K (.ref C_NoRow) (.ref C_Clash)=some false) (ln:PySem.W.kitOne K (.ref C_NoRow) (.ref C_Clash)=some false)
  (mv:PySem.W.exmOne K (.ref C_Over) (.ref C_Clash)=some false) (mw:PySem.W.kitOne K (.ref C_Over) (.ref C_Clash)=some false)
  (mx:PySem.W.exmOne K (.ref C_Held) (.ref C_Clash)=some false) (my:PySem.W.kitOne K (.ref C_Held) (.ref C_Clash)=some false)
  (ik:PySem.W.exmOne K (.ref C_TooMany) (.ref C_Clash)=some false) (il:PySem.W.kitOne K (.ref C_TooMany) (.ref C_Clash)=some false)
  (lp:PySem.W.exmOne K (.ref C_Clash) (.ref C_Clash)=some true) (lq:PySem.W.kitOne K (.ref C_Clash) (.ref C_Clash)=some true)
  (gn:PySem.W.exmOne K (.ref C_NoSaying) (.ref C_Clash)=some false) (gp:PySem.W.kitOne K (.ref C_NoSaying) (.ref C_Clash)=some false)
  (im:PySem.W.exmOne K (.ref C_BadText) (.ref C_Clash)=some false) (ip:PySem.W.kitOne K (.ref C_BadText) (.ref C_Clash)=some false)
  (sw:PySem.W.kitOne K (.type "NoneType") (.ref C_Held)=some false)
  (ko:PySem.W.exmOne K (.ref C_NoLabel) (.ref C_Held)=some false) (kq:PySem.W.kitOne K (.ref C_NoLabel) (.ref C_Held)=some false)
  (lr:PySem.W.exmOne K (.ref C_NoSpot) (.ref C_Held)=some false) (lt:PySem.W.kitOne K (.ref C_NoSpot) (.ref C_Held)=some false)
  (lw:PySem.W.exmOne K (.ref C_Nought) (.ref C_Held)=some false) (lx:PySem.W.kitOne K (.ref C_Nought) (.ref C_Held)=some false)
  (mz:PySem.W.exmOne K (.ref C_NoRow) (.ref C_Held)=some false) (mB:PySem.W.kitOne K (.ref C_NoRow) (.ref C_Held)=some false)
  (m5:PySem.W.exmOne K (.ref C_Over) (.ref C_Held)=some false) (m6:PySem.W.kitOne K (.ref C_Over) (.ref C_Held)=some false)
  (m8:PySem.W.exmOne K (.ref C_Held) (.ref C_Held)=some true) (ng:PySem.W.kitOne K (.ref C_Held) (.ref C_Held)=some true)
  (kt:PySem.W.exmOne K (.ref C_TooMany) (.ref C_Held)=some false) (ku:PySem.W.kitOne K (.ref C_TooMany) (.ref C_Held)=some false)
  (mC:PySem.W.exmOne K (.ref C_Clash) (.ref C_Held)=some false) (mE:PySem.W.kitOne K (.ref C_Clash) (.ref C_Held)=some false)
  (iq:PySem.W.exmOne K (.ref C_NoSaying) (.ref C_Held)=some false) (ir:PySem.W.kitOne K (.ref C_NoSaying) (.ref C_Held)=some false)
  (kx:PySem.W.exmOne K (.ref C_BadText) (.ref C_Held)=some false) (ky:PySem.W.kitOne K (.ref C_BadText) (.ref C_Held)=some false)
  (y_KeyError:PySem.W.nsIn K mainGlobals "KeyError" = some none)
  (nE:PySem.W.kitOne K (.type "NoneType") (.type "KeyError")=some false)
  (di:PySem.W.exmOne K (.ref C_NoLabel) (.type "KeyError")=some false) (dj:PySem.W.kitOne K (.ref C_NoLabel) (.type "KeyError")=some false)
  (eN:PySem.W.exmOne K (.ref C_NoSpot) (.type "KeyError")=some true) (eP:PySem.W.kitOne K (.ref C_NoSpot) (.type "KeyError")=some true)
  (eQ:PySem.W.exmOne K (.ref C_Nought) (.type "KeyError")=some false) (eR:PySem.W.kitOne K (.ref C_Nought) (.type "KeyError")=some false)
  (gs:PySem.W.exmOne K (.ref C_NoRow) (.type "KeyError")=some false) (gu:PySem.W.kitOne K (.ref C_NoRow) (.type "KeyError")=some false)
  (iu:PySem.W.exmOne K (.ref C_Over) (.type "KeyError")=some false) (iA:PySem.W.kitOne K (.ref C_Over) (.type "KeyError")=some false)
  (iB:PySem.W.exmOne K (.ref C_Held) (.type "KeyError")=some false) (iE:PySem.W.kitOne K (.ref C_Held) (.type "KeyError")=some false)
  (dl:PySem.W.exmOne K (.ref C_TooMany) (.type "KeyError")=some false) (dm:PySem.W.kitOne K (.ref C_TooMany) (.type "KeyError")=some false)
  (gv:PySem.W.exmOne K (.ref C_Clash) (.type "KeyError")=some false) (gw:PySem.W.kitOne K (.ref C_Clash) (.type "KeyError")=some false)
  (cz:PySem.W.exmOne K (.ref C_NoSaying) (.type "KeyError")=some false) (cB:PySem.W.kitOne K (.ref C_NoSaying) (.type "KeyError")=some false)
  (dq:PySem.W.exmOne K (.ref C_BadText) (.type "KeyError")=some false) (dt:PySem.W.kitOne K (.ref C_BadText) (.type "KeyError")=some false)
  (nG:PySem.W.kitOne K (.type "NoneType") (.ref C_LayError)=some false)
  (du:PySem.W.exmOne K (.ref C_NoLabel) (.ref C_LayError)=some false) (dy:PySem.W.kitOne K (.ref C_NoLabel) (.ref C_LayError)=some false)
  (eS:PySem.W.exmOne K (.ref C_NoSpot) (.ref C_LayError)=some false) (eT:PySem.W.kitOne K (.ref C_NoSpot) (.ref C_LayError)=some false)
  (eW:PySem.W.exmOne K (.ref C_Nought) (.ref C_LayError)=some false) (e7:PySem.W.kitOne K (.ref C_Nought) (.ref C_LayError)=some false)
  (gx:PySem.W.exmOne K (.ref C_NoRow) (.ref C_LayError)=some true) (gy:PySem.W.kitOne K (.ref C_NoRow) (.ref C_LayError)=some true)
  (iF:PySem.W.exmOne K (.ref C_Over) (.ref C_LayError)=some true) (iM:PySem.W.kitOne K (.ref C_Over) (.ref C_LayError)=some true)
  (iN:PySem.W.exmOne K (.ref C_Held) (.ref C_LayError)=some true) (iO:PySem.W.kitOne K (.ref C_Held) (.ref C_LayError)=some true)
  (dz:PySem.W.exmOne K (.ref C_TooMany) (.ref C_LayError)=some true) (dA:PySem.W.kitOne K (.ref C_TooMany) (.ref C_LayError)=some true)
  (gz:PySem.W.exmOne K (.ref C_Clash) (.ref C_LayError)=some true) (gB:PySem.W.kitOne K (.ref C_Clash) (.ref C_LayError)=some true)
  (cE:PySem.W.exmOne K (.ref C_NoSaying) (.ref C_LayError)=some true) (cF:PySem.W.kitOne K (.ref C_NoSaying) (.ref C_LayError)=some true)
  (dC:PySem.W.exmOne K (.ref C_BadText) (.ref C_LayError)=some true) (dE:PySem.W.kitOne K (.ref C_BadText) (.ref C_LayError)=some true)
  (y_LookupError:PySem.W.nsIn K mainGlobals "LookupError" = some none)
  (ly:PySem.W.kitOne K (.type "NoneType") (.type "LookupError")=some false)
  (b5:PySem.W.exmOne K (.ref C_NoLabel) (.type "LookupError")=some true) (b6:PySem.W.kitOne K (.ref C_NoLabel) (.type "LookupError")=some true)
  (cg:PySem.W.exmOne K (.ref C_NoSpot) (.type "LookupError")=some true) (ci:PySem.W.kitOne K (.ref C_NoSpot) (.type "LookupError")=some true)
  (cj:PySem.W.exmOne K (.ref C_Nought) (.type "LookupError")=some false) (cm:PySem.W.kitOne K (.ref C_Nought) (.type "LookupError")=some false)
  (cK:PySem.W.exmOne K (.ref C_NoRow) (.type "LookupError")=some false) (cL:PySem.W.kitOne K (.ref C_NoRow) (.type "LookupError")=some false)
  (dL:PySem.W.exmOne K (.ref C_Over) (.type "LookupError")=some false) (dP:PySem.W.kitOne K (.ref C_Over) (.type "LookupError")=some false)
  (dQ:PySem.W.exmOne K (.ref C_Held) (.type "LookupError")=some false) (dS:PySem.W.kitOne K (.ref C_Held) (.type "LookupError")=some false)
  (b7:PySem.W.exmOne K (.ref C_TooMany) (.type "LookupError")=some false) (b8:PySem.W.kitOne K (.ref C_TooMany) (.type "LookupError")=some false)
  (cN:PySem.W.exmOne K (.ref C_Clash) (.type "LookupError")=some false) (cS:PySem.W.kitOne K (.ref C_Clash) (.type "LookupError")=some false)
  (bS:PySem.W.exmOne K (.ref C_NoSaying) (.type "LookupError")=some false) (bX:PySem.W.kitOne K (.ref C_NoSaying) (.type "LookupError")=some false)
  (b9:PySem.W.exmOne K (.ref C_BadText) (.type "LookupError")=some false) (cb:PySem.W.kitOne K (.ref C_BadText) (.type "LookupError")=some false)
  (o0:PySem.W.kitOne K (.type "NoneType") (.ref C_NoLabel)=some false)
  (e8:PySem.W.exmOne K (.ref C_NoLabel) (.ref C_NoLabel)=some true) (fb:PySem.W.kitOne K (.ref C_NoLabel) (.ref C_NoLabel)=some true)
  (gE:PySem.W.exmOne K (.ref C_NoSpot) (.ref C_NoLabel)=some false) (gF:PySem.W.kitOne K (.ref C_NoSpot) (.ref C_NoLabel)=some false)
  (gI:PySem.W.exmOne K (.ref C_Nought) (.ref C_NoLabel)=some false) (gL:PySem.W.kitOne K (.ref C_Nought) (.ref C_NoLabel)=some false)
  (iP:PySem.W.exmOne K (.ref C_NoRow) (.ref C_NoLabel)=some false) (iR:PySem.W.kitOne K (.ref C_NoRow) (.ref C_NoLabel)=some false)
  (kz:PySem.W.exmOne K (.ref C_Over) (.ref C_NoLabel)=some false) (kA:PySem.W.kitOne K (.ref C_Over) (.ref C_NoLabel)=some false)
  (kB:PySem.W.exmOne K (.ref C_Held) (.ref C_NoLabel)=some false) (kD:PySem.W.kitOne K (.ref C_Held) (.ref C_NoLabel)=some false)
  (fc:PySem.W.exmOne K (.ref C_TooMany) (.ref C_NoLabel)=some false) (fe:PySem.W.kitOne K (.ref C_TooMany) (.ref C_NoLabel)=some false)
  (iS:PySem.W.exmOne K (.ref C_Clash) (.ref C_NoLabel)=some false) (iX:PySem.W.kitOne K (.ref C_Clash) (.ref C_NoLabel)=some false)
  (dT:PySem.W.exmOne K (.ref C_NoSaying) (.ref C_NoLabel)=some false) (d0:PySem.W.kitOne K (.ref C_NoSaying) (.ref C_NoLabel)=some false)
  (fg:PySem.W.exmOne K (.ref C_BadText) (.ref C_NoLabel)=some false) (fh:PySem.W.kitOne K (.ref C_BadText) (.ref C_NoLabel)=some false)
  (rn:PySem.W.kitOne K (.type "NoneType") (.ref C_NoRow)=some false)
  (i0:PySem.W.exmOne K (.ref C_NoLabel) (.ref C_NoRow)=some false) (i3:PySem.W.kitOne K (.ref C_NoLabel) (.ref C_NoRow)=some false)
  (kF:PySem.W.exmOne K (.ref C_NoSpot) (.ref C_NoRow)=some false) (kG:PySem.W.kitOne K (.ref C_NoSpot) (.ref C_NoRow)=some false)
  (kH:PySem.W.exmOne K (.ref C_Nought) (.ref C_NoRow)=some false) (kI:PySem.W.kitOne K (.ref C_Nought) (.ref C_NoRow)=some false)
  (lz:PySem.W.exmOne K (.ref C_NoRow) (.ref C_NoRow)=some true) (lI:PySem.W.kitOne K (.ref C_NoRow) (.ref C_NoRow)=some true)
  (mI:PySem.W.exmOne K (.ref C_Over) (.ref C_NoRow)=some false) (mL:PySem.W.kitOne K (.ref C_Over) (.ref C_NoRow)=some false)
  (mM:PySem.W.exmOne K (.ref C_Held) (.ref C_NoRow)=some false) (mP:PySem.W.kitOne K (.ref C_Held) (.ref C_NoRow)=some false)
  (i4:PySem.W.exmOne K (.ref C_TooMany) (.ref C_NoRow)=some false) (i5:PySem.W.kitOne K (.ref C_TooMany) (.ref C_NoRow)=some false)
  (lL:PySem.W.exmOne K (.ref C_Clash) (.ref C_NoRow)=some false) (lP:PySem.W.kitOne K (.ref C_Clash) (.ref C_NoRow)=some false)
  (gN:PySem.W.exmOne K (.ref C_NoSaying) (.ref C_NoRow)=some false) (gO:PySem.W.kitOne K (.ref C_NoSaying) (.ref C_NoRow)=some false)
  (i6:PySem.W.exmOne K (.ref C_BadText) (.ref C_NoRow)=some false) (i7:PySem.W.kitOne K (.ref C_BadText) (.ref C_NoRow)=some false)
  (nI:PySem.W.kitOne K (.type "NoneType") (.ref C_NoSaying)=some false)
  (d5:PySem.W.exmOne K (.ref C_NoLabel) (.ref C_NoSaying)=some false) (d6:PySem.W.kitOne K (.ref C_NoLabel) (.ref C_NoSaying)=some false)
  (fi:PySem.W.exmOne K (.ref C_NoSpot) (.ref C_NoSaying)=some false) (fk:PySem.W.kitOne K (.ref C_NoSpot) (.ref C_NoSaying)=some false)
  (fq:PySem.W.exmOne K (.ref C_Nought) (.ref C_NoSaying)=some false) (fw:PySem.W.kitOne K (.ref C_Nought) (.ref C_NoSaying)=some false)
  (gP:PySem.W.exmOne K (.ref C_NoRow) (.ref C_NoSaying)=some false) (gS:PySem.W.kitOne K (.ref C_NoRow) (.ref C_NoSaying)=some false)
  (i8:PySem.W.exmOne K (.ref C_Over) (.ref C_NoSaying)=some false) (i9:PySem.W.kitOne K (.ref C_Over) (.ref C_NoSaying)=some false)
  (ja:PySem.W.exmOne K (.ref C_Held) (.ref C_NoSaying)=some false) (jb:PySem.W.kitOne K (.ref C_Held) (.ref C_NoSaying)=some false)
  (ec:PySem.W.exmOne K (.ref C_TooMany) (.ref C_NoSaying)=some false) (eg:PySem.W.kitOne K (.ref C_TooMany) (.ref C_NoSaying)=some false)
  (gT:PySem.W.exmOne K (.ref C_Clash) (.ref C_NoSaying)=some false) (gX:PySem.W.kitOne K (.ref C_Clash) (.ref C_NoSaying)=some false)
  (cT:PySem.W.exmOne K (.ref C_NoSaying) (.ref C_NoSaying)=some true) (c8:PySem.W.kitOne K (.ref C_NoSaying) (.ref C_NoSaying)=some true)
  (eh:PySem.W.exmOne K (.ref C_BadText) (.ref C_NoSaying)=some false) (ei:PySem.W.kitOne K (.ref C_BadText) (.ref C_NoSaying)=some false)
  (qx:PySem.W.kitOne K (.type "NoneType") (.ref C_NoSpot)=some false)
  (gZ:PySem.W.exmOne K (.ref C_NoLabel) (.ref C_NoSpot)=some false) (g0:PySem.W.kitOne K (.ref C_NoLabel) (.ref C_NoSpot)=some false)
  (jl:PySem.W.exmOne K (.ref C_NoSpot) (.ref C_NoSpot)=some true) (jn:PySem.W.kitOne K (.ref C_NoSpot) (.ref C_NoSpot)=some true)
  (jp:PySem.W.exmOne K (.ref C_Nought) (.ref C_NoSpot)=some false) (jq:PySem.W.kitOne K (.ref C_Nought) (.ref C_NoSpot)=some false)
  (kK:PySem.W.exmOne K (.ref C_NoRow) (.ref C_NoSpot)=some false) (kL:PySem.W.kitOne K (.ref C_NoRow) (.ref C_NoSpot)=some false)
  (lR:PySem.W.exmOne K (.ref C_Over) (.ref C_NoSpot)=some false) (lS:PySem.W.kitOne K (.ref C_Over) (.ref C_NoSpot)=some false)
  (lT:PySem.W.exmOne K (.ref C_Held) (.ref C_NoSpot)=some false) (l8:PySem.W.kitOne K (.ref C_Held) (.ref C_NoSpot)=some false)
  (g4:PySem.W.exmOne K (.ref C_TooMany) (.ref C_NoSpot)=some false) (g7:PySem.W.kitOne K (.ref C_TooMany) (.ref C_NoSpot)=some false)
  (kM:PySem.W.exmOne K (.ref C_Clash) (.ref C_NoSpot)=some false) (kN:PySem.W.kitOne K (.ref C_Clash) (.ref C_NoSpot)=some false)
  (fy:PySem.W.exmOne K (.ref C_NoSaying) (.ref C_NoSpot)=some false) (fz:PySem.W.kitOne K (.ref C_NoSaying) (.ref C_NoSpot)=some false)
  (g9:PySem.W.exmOne K (.ref C_BadText) (.ref C_NoSpot)=some false) (hD:PySem.W.kitOne K (.ref C_BadText) (.ref C_NoSpot)=some false)
  (qy:PySem.W.kitOne K (.type "NoneType") (.ref C_Nought)=some false)
  (hE:PySem.W.exmOne K (.ref C_NoLabel) (.ref C_Nought)=some false) (hG:PySem.W.kitOne K (.ref C_NoLabel) (.ref C_Nought)=some false)
  (js:PySem.W.exmOne K (.ref C_NoSpot) (.ref C_Nought)=some false) (jv:PySem.W.kitOne K (.ref C_NoSpot) (.ref C_Nought)=some false)
  (jz:PySem.W.exmOne K (.ref C_Nought) (.ref C_Nought)=some true) (jI:PySem.W.kitOne K (.ref C_Nought) (.ref C_Nought)=some true)
  (kO:PySem.W.exmOne K (.ref C_NoRow) (.ref C_Nought)=some false) (kP:PySem.W.kitOne K (.ref C_NoRow) (.ref C_Nought)=some false)
  (l9:PySem.W.exmOne K (.ref C_Over) (.ref C_Nought)=some false) (md:PySem.W.kitOne K (.ref C_Over) (.ref C_Nought)=some false)
  (mf:PySem.W.exmOne K (.ref C_Held) (.ref C_Nought)=some false) (mh:PySem.W.kitOne K (.ref C_Held) (.ref C_Nought)=some false)
  (hI:PySem.W.exmOne K (.ref C_TooMany) (.ref C_Nought)=some false) (hK:PySem.W.kitOne K (.ref C_TooMany) (.ref C_Nought)=some false)
  (kQ:PySem.W.exmOne K (.ref C_Clash) (.ref C_Nought)=some false) (kR:PySem.W.kitOne K (.ref C_Clash) (.ref C_Nought)=some false)
  (fA:PySem.W.exmOne K (.ref C_NoSaying) (.ref C_Nought)=some false) (fC:PySem.W.kitOne K (.ref C_NoSaying) (.ref C_Nought)=some false)
  (hL:PySem.W.exmOne K (.ref C_BadText) (.ref C_Nought)=some false) (hQ:PySem.W.kitOne K (.ref C_BadText) (.ref C_Nought)=some false)
  (sx:PySem.W.kitOne K (.type "NoneType") (.ref C_Over)=some false)
  (kS:PySem.W.exmOne K (.ref C_NoLabel) (.ref C_Over)=some false) (kT:PySem.W.kitOne K (.ref C_NoLabel) (.ref C_Over)=some false)
  (ml:PySem.W.exmOne K (.ref C_NoSpot) (.ref C_Over)=some false) (mm:PySem.W.kitOne K (.ref C_NoSpot) (.ref C_Over)=some false)
  (mn:PySem.W.exmOne K (.ref C_Nought) (.ref C_Over)=some false) (mo:PySem.W.kitOne K (.ref C_Nought) (.ref C_Over)=some false)
  (mR:PySem.W.exmOne K (.ref C_NoRow) (.ref C_Over)=some false) (mS:PySem.W.kitOne K (.ref C_NoRow) (.ref C_Over)=some false)
  (nh:PySem.W.exmOne K (.ref C_Over) (.ref C_Over)=some true) (nk:PySem.W.kitOne K (.ref C_Over) (.ref C_Over)=some true)
  (nl:PySem.W.exmOne K (.ref C_Held) (.ref C_Over)=some false) (nn:PySem.W.kitOne K (.ref C_Held) (.ref C_Over)=some false)
  (kU:PySem.W.exmOne K (.ref C_TooMany) (.ref C_Over)=some false) (kX:PySem.W.kitOne K (.ref C_TooMany) (.ref C_Over)=some false)
  (mT:PySem.W.exmOne K (.ref C_Clash) (.ref C_Over)=some false) (m0:PySem.W.kitOne K (.ref C_Clash) (.ref C_Over)=some false)
  (jS:PySem.W.exmOne K (.ref C_NoSaying) (.ref C_Over)=some false) (j0:PySem.W.kitOne K (.ref C_NoSaying) (.ref C_Over)=some false)
  (k8:PySem.W.exmOne K (.ref C_BadText) (.ref C_Over)=some false) (k9:PySem.W.kitOne K (.ref C_BadText) (.ref C_Over)=some false)
  (o4:PySem.W.kitOne K (.type "NoneType") (.ref C_TooMany)=some false)
  (fE:PySem.W.exmOne K (.ref C_NoLabel) (.ref C_TooMany)=some false) (fF:PySem.W.kitOne K (.ref C_NoLabel) (.ref C_TooMany)=some false)
  (hR:PySem.W.exmOne K (.ref C_NoSpot) (.ref C_TooMany)=some false) (hU:PySem.W.kitOne K (.ref C_NoSpot) (.ref C_TooMany)=some false)
  (hV:PySem.W.exmOne K (.ref C_Nought) (.ref C_TooMany)=some false) (hX:PySem.W.kitOne K (.ref C_Nought) (.ref C_TooMany)=some false)
  (j1:PySem.W.exmOne K (.ref C_NoRow) (.ref C_TooMany)=some false) (j2:PySem.W.kitOne K (.ref C_NoRow) (.ref C_TooMany)=some false)
  (la:PySem.W.exmOne K (.ref C_Over) (.ref C_TooMany)=some false) (lb:PySem.W.kitOne K (.ref C_Over) (.ref C_TooMany)=some false)
  (lc:PySem.W.exmOne K (.ref C_Held) (.ref C_TooMany)=some false) (ld:PySem.W.kitOne K (.ref C_Held) (.ref C_TooMany)=some false)
  (fN:PySem.W.exmOne K (.ref C_TooMany) (.ref C_TooMany)=some true) (fR:PySem.W.kitOne K (.ref C_TooMany) (.ref C_TooMany)=some true)
  (j3:PySem.W.exmOne K (.ref C_Clash) (.ref C_TooMany)=some false) (j4:PySem.W.kitOne K (.ref C_Clash) (.ref C_TooMany)=some false)
  (em:PySem.W.exmOne K (.ref C_NoSaying) (.ref C_TooMany)=some false) (ew:PySem.W.kitOne K (.ref C_NoSaying) (.ref C_TooMany)=some false)
  (fS:PySem.W.exmOne K (.ref C_BadText) (.ref C_TooMany)=some false) (fT:PySem.W.kitOne K (.ref C_BadText) (.ref C_TooMany)=some false)
  (y_ValueError:PySem.W.nsIn K mainGlobals "ValueError" = some none)
  (m4:PySem.W.kitOne K (.type "NoneType") (.type "ValueError")=some false)
  (cp:PySem.W.exmOne K (.ref C_NoLabel) (.type "ValueError")=some false) (cq:PySem.W.kitOne K (.ref C_NoLabel) (.type "ValueError")=some false)
  (c9:PySem.W.exmOne K (.ref C_NoSpot) (.type "ValueError")=some false) (da:PySem.W.kitOne K (.ref C_NoSpot) (.type "ValueError")=some false)
  (db:PySem.W.exmOne K (.ref C_Nought) (.type "ValueError")=some false) (dc:PySem.W.kitOne K (.ref C_Nought) (.type "ValueError")=some false)
  (ez:PySem.W.exmOne K (.ref C_NoRow) (.type "ValueError")=some true) (eA:PySem.W.kitOne K (.ref C_NoRow) (.type "ValueError")=some true)
  (f8:PySem.W.exmOne K (.ref C_Over) (.type "ValueError")=some true) (f9:PySem.W.kitOne K (.ref C_Over) (.type "ValueError")=some true)
  (gb:PySem.W.exmOne K (.ref C_Held) (.type "ValueError")=some true) (gd:PySem.W.kitOne K (.ref C_Held) (.type "ValueError")=some true)
  (cr:PySem.W.exmOne K (.ref C_TooMany) (.type "ValueError")=some true) (cs:PySem.W.kitOne K (.ref C_TooMany) (.type "ValueError")=some true)
  (eB:PySem.W.exmOne K (.ref C_Clash) (.type "ValueError")=some true) (eD:PySem.W.kitOne K (.ref C_Clash) (.type "ValueError")=some true)
  (cc:PySem.W.exmOne K (.ref C_NoSaying) (.type "ValueError")=some true) (ce:PySem.W.kitOne K (.ref C_NoSaying) (.type "ValueError")=some true)
  (cu:PySem.W.exmOne K (.ref C_BadText) (.type "ValueError")=some true) (cw:PySem.W.kitOne K (.ref C_BadText) (.type "ValueError")=some true)
  (y_ZeroDivisionError:PySem.W.nsIn K mainGlobals "ZeroDivisionError" = some none)
  (de:PySem.W.kitOne K (.type "NoneType") (.type "ZeroDivisionError")=some false)
  (a8:PySem.W.exmOne K (.ref C_NoLabel) (.type "ZeroDivisionError")=some false) (a9:PySem.W.kitOne K (.ref C_NoLabel) (.type "ZeroDivisionError")=some false)
  (bg:PySem.W.exmOne K (.ref C_NoSpot) (.type "ZeroDivisionError")=some false) (bi:PySem.W.kitOne K (.ref C_NoSpot) (.type "ZeroDivisionError")=some false)
  (bj:PySem.W.exmOne K (.ref C_Nought) (.type "ZeroDivisionError")=some true) (bo:PySem.W.kitOne K (.ref C_Nought) (.type "ZeroDivisionError")=some true)
  (bt:PySem.W.exmOne K (.ref C_NoRow) (.type "ZeroDivisionError")=some false) (bu:PySem.W.kitOne K (.ref C_NoRow) (.type "ZeroDivisionError")=some false)
  (bz:PySem.W.exmOne K (.ref C_Over) (.type "ZeroDivisionError")=some false) (bC:PySem.W.kitOne K (.ref C_Over) (.type "ZeroDivisionError")=some false)
  (bE:PySem.W.exmOne K (.ref C_Held) (.type "ZeroDivisionError")=some false) (bI:PySem.W.kitOne K (.ref C_Held) (.type "ZeroDivisionError")=some false)
  (ba:PySem.W.exmOne K (.ref C_TooMany) (.type "ZeroDivisionError")=some false) (bb:PySem.W.kitOne K (.ref C_TooMany) (.type "ZeroDivisionError")=some false)
  (bv:PySem.W.exmOne K (.ref C_Clash) (.type "ZeroDivisionError")=some false) (bw:PySem.W.kitOne K (.ref C_Clash) (.type "ZeroDivisionError")=some false)
  (aL:PySem.W.exmOne K (.ref C_NoSaying) (.type "ZeroDivisionError")=some false) (aS:PySem.W.kitOne K (.ref C_NoSaying) (.type "ZeroDivisionError")=some false)
  (bc:PySem.W.exmOne K (.ref C_BadText) (.type "ZeroDivisionError")=some false) (be:PySem.W.kitOne K (.ref C_BadText) (.type "ZeroDivisionError")=some false)
  (o5:xfB K C_BadText=true) (lh:PySem.W.findIn K (.ref C_BadText) "at" = some none)
  (nK:xfB K C_NoSaying=true) (h8:PySem.W.findIn K (.ref C_NoSaying) "word" = some none)
  (rq:xfB K C_Clash=true) (nr:PySem.W.findIn K (.ref C_Clash) "lot" = some none)
  (o6:xfB K C_TooMany=true) (li:PySem.W.findIn K (.ref C_TooMany) "most" = some none)
  (qz:xfB K C_NoSpot=true) (mq:PySem.W.findIn K (.ref C_NoSpot) "spot" = some none)
  (pd:xfB K C_NoLabel=true) (lj:PySem.W.findIn K (.ref C_NoLabel) "label" = some none)
  (sz:PySem.W.excIn K C_Held [.type "ValueError",.type "Exception",.type "BaseException",.type "object"] "ValueError.__new__" = true) (sA:PySem.W.keepIn K (.ref C_Held)=true) (sB:PySem.W.subIn K (.ref C_Held) (.type "BaseException")=some true) (sC:PySem.W.typeIn K (.ref C_Held)=some (.type "type"))
  (rs:PySem.W.excIn K C_NoRow [.type "ValueError",.type "Exception",.type "BaseException",.type "object"] "ValueError.__new__" = true) (rL:PySem.W.keepIn K (.ref C_NoRow)=true) (rS:PySem.W.subIn K (.ref C_NoRow) (.type "BaseException")=some true) (rT:PySem.W.typeIn K (.ref C_NoRow)=some (.type "type"))
  (qA:PySem.W.excIn K C_Nought [.type "ZeroDivisionError",.type "ArithmeticError",.type "Exception",.type "BaseException",.type "object"] "ZeroDivisionError.__new__" = true) (qB:PySem.W.keepIn K (.ref C_Nought)=true) (qE:PySem.W.subIn K (.ref C_Nought) (.type "BaseException")=some true) (qS:PySem.W.typeIn K (.ref C_Nought)=some (.type "type"))
  (sD:PySem.W.excIn K C_Over [.type "ValueError",.type "Exception",.type "BaseException",.type "object"] "ValueError.__new__" = true) (sF:PySem.W.keepIn K (.ref C_Over)=true) (sK:PySem.W.subIn K (.ref C_Over) (.type "BaseException")=some true) (sL:PySem.W.typeIn K (.ref C_Over)=some (.type "type"))
  (pf:K.lookup C_BadText=some (excClassObj nm_BadText om C_BadText N_BadText bs_BadText bm_BadText true on sub_BadText oq col_BadText oy k0_BadText k1_BadText k2_BadText k3_BadText k5_BadText "ValueError.__new__")) (ph:PySem.HandSPX.refsVE bm_BadText=true) (pj:PySem.W.findIn K (.ref C_BadText) "__setattr__" = some (some (.builtin "object.__setattr__"))) (pk:PySem.W.keepIn K (.ref C_BadText)=true) (pl:PySem.W.subIn K (.ref C_BadText) (.type "BaseException")=some true) (po:PySem.W.typeIn K (.ref C_BadText)=some (.type "type"))
  (pp:PySem.W.findIn K (.ref C_BadText) "__init__" = some (some (.ref fI_BadText))) (pu:PySem.W.typeIn K (.ref fI_BadText)=some (.type "function")) (pv:K.lookup fI_BadText=some ⟨ioc_BadText,iod_BadText,.func (PySem.W.fnOf "__init__" "BadText.__init__" (defArgs fU) (defBody fU) (defScope fU) .none ikV_BadText idc_BadText ipm_BadText ian_BadText icd_BadText ict_BadText),isl_BadText⟩) (px:PySem.W.codeIn K icd_BadText "BadText.__init__" = true) (pz:PySem.W.keepIn K (.ref fI_BadText)=true)
  (rU:K.lookup C_Clash=some (excClassObj nm_Clash rg C_Clash N_Clash bs_Clash bm_Clash true rh sub_Clash rj col_Clash rl k0_Clash k1_Clash k2_Clash k3_Clash k5_Clash "ValueError.__new__")) (rV:PySem.HandSPX.refsVE bm_Clash=true) (rX:PySem.W.findIn K (.ref C_Clash) "__setattr__" = some (some (.builtin "object.__setattr__"))) (r4:PySem.W.keepIn K (.ref C_Clash)=true) (r7:PySem.W.subIn K (.ref C_Clash) (.type "BaseException")=some true) (r8:PySem.W.typeIn K (.ref C_Clash)=some (.type "type"))
  (r9:PySem.W.findIn K (.ref C_Clash) "__init__" = some (some (.ref fI_Clash))) (sj:PySem.W.typeIn K (.ref fI_Clash)=some (.type "function")) (sl:K.lookup fI_Clash=some ⟨ioc_Clash,iod_Clash,.func (PySem.W.fnOf "__init__" "Clash.__init__" (defArgs jk) (defBody jk) (defScope jk) .none ikV_Clash idc_Clash ipm_Clash ian_Clash icd_Clash ict_Clash),isl_Clash⟩) (sq:PySem.W.codeIn K icd_Clash "Clash.__init__" = true) (sr:PySem.W.keepIn K (.ref fI_Clash)=true)
  (pE:K.lookup C_NoLabel=some (excClassObj nm_NoLabel oz C_NoLabel N_NoLabel bs_NoLabel bm_NoLabel true oB sub_NoLabel oC col_NoLabel oD k0_NoLabel k1_NoLabel k2_NoLabel k3_NoLabel k5_NoLabel "LookupError.__new__")) (pI:PySem.tG.eV bm_NoLabel=true) (pL:PySem.W.findIn K (.ref C_NoLabel) "__setattr__" = some (some (.builtin "object.__setattr__"))) (pM:PySem.W.keepIn K (.ref C_NoLabel)=true) (pR:PySem.W.subIn K (.ref C_NoLabel) (.type "BaseException")=some true) (pS:PySem.W.typeIn K (.ref C_NoLabel)=some (.type "type"))
  (pT:PySem.W.findIn K (.ref C_NoLabel) "__init__" = some (some (.ref fI_NoLabel))) (pV:PySem.W.typeIn K (.ref fI_NoLabel)=some (.type "function")) (p0:K.lookup fI_NoLabel=some ⟨ioc_NoLabel,iod_NoLabel,.func (PySem.W.fnOf "__init__" "NoLabel.__init__" (defArgs fV) (defBody fV) (defScope fV) .none ikV_NoLabel idc_NoLabel ipm_NoLabel ian_NoLabel icd_NoLabel ict_NoLabel),isl_NoLabel⟩) (p7:PySem.W.codeIn K icd_NoLabel "NoLabel.__init__" = true) (p8:PySem.W.keepIn K (.ref fI_NoLabel)=true)
  (nP:K.lookup C_NoSaying=some (excClassObj nm_NoSaying nt C_NoSaying N_NoSaying bs_NoSaying bm_NoSaying true ny sub_NoSaying nz col_NoSaying nC k0_NoSaying k1_NoSaying k2_NoSaying k3_NoSaying k5_NoSaying "ValueError.__new__")) (nS:PySem.HandSPX.refsVE bm_NoSaying=true) (nT:PySem.W.findIn K (.ref C_NoSaying) "__setattr__" = some (some (.builtin "object.__setattr__"))) (nV:PySem.W.keepIn K (.ref C_NoSaying)=true) (nX:PySem.W.subIn K (.ref C_NoSaying) (.type "BaseException")=some true) (n4:PySem.W.typeIn K (.ref C_NoSaying)=some (.type "type"))
  (n5:PySem.W.findIn K (.ref C_NoSaying) "__init__" = some (some (.ref fI_NoSaying))) (n6:PySem.W.typeIn K (.ref fI_NoSaying)=some (.type "function")) (n7:K.lookup fI_NoSaying=some ⟨ioc_NoSaying,iod_NoSaying,.func (PySem.W.fnOf "__init__" "NoSaying.__init__" (defArgs eO) (defBody eO) (defScope eO) .none ikV_NoSaying idc_NoSaying ipm_NoSaying ian_NoSaying icd_NoSaying ict_NoSaying),isl_NoSaying⟩) (n8:PySem.W.codeIn K icd_NoSaying "NoSaying.__init__" = true) (n9:PySem.W.keepIn K (.ref fI_NoSaying)=true)
  (qV:K.lookup C_NoSpot=some (excClassObj nm_NoSpot qr C_NoSpot N_NoSpot bs_NoSpot bm_NoSpot true qs sub_NoSpot qt col_NoSpot qv k0_NoSpot k1_NoSpot k2_NoSpot k3_NoSpot k5_NoSpot "LookupError.__new__")) (q0:PySem.tG.eV bm_NoSpot=true) (q4:PySem.W.findIn K (.ref C_NoSpot) "__setattr__" = some (some (.builtin "object.__setattr__"))) (q5:PySem.W.keepIn K (.ref C_NoSpot)=true) (q7:PySem.W.subIn K (.ref C_NoSpot) (.type "BaseException")=some true) (q8:PySem.W.typeIn K (.ref C_NoSpot)=some (.type "type"))
  (q9:PySem.W.findIn K (.ref C_NoSpot) "__init__" = some (some (.ref fI_NoSpot))) (rb:PySem.W.typeIn K (.ref fI_NoSpot)=some (.type "function")) (rc:K.lookup fI_NoSpot=some ⟨ioc_NoSpot,iod_NoSpot,.func (PySem.W.fnOf "__init__" "NoSpot.__init__" (defArgs gY) (defBody gY) (defScope gY) .none ikV_NoSpot idc_NoSpot ipm_NoSpot ian_NoSpot icd_NoSpot ict_NoSpot),isl_NoSpot⟩) (re:PySem.W.codeIn K icd_NoSpot "NoSpot.__init__" = true) (rf:PySem.W.keepIn K (.ref fI_NoSpot)=true)
  (p9:K.lookup C_TooMany=some (excClassObj nm_TooMany oI C_TooMany N_TooMany bs_TooMany bm_TooMany true oL sub_TooMany oP col_TooMany oQ k0_TooMany k1_TooMany k2_TooMany k3_TooMany k5_TooMany "ValueError.__new__")) (qa:PySem.HandSPX.refsVE bm_TooMany=true) (qc:PySem.W.findIn K (.ref C_TooMany) "__setattr__" = some (some (.builtin "object.__setattr__"))) (qe:PySem.W.keepIn K (.ref C_TooMany)=true) (qf:PySem.W.subIn K (.ref C_TooMany) (.type "BaseException")=some true) (qg:PySem.W.typeIn K (.ref C_TooMany)=some (.type "type"))
  (qh:PySem.W.findIn K (.ref C_TooMany) "__init__" = some (some (.ref fI_TooMany))) (qi:PySem.W.typeIn K (.ref fI_TooMany)=some (.type "function")) (qk:K.lookup fI_TooMany=some ⟨ioc_TooMany,iod_TooMany,.func (PySem.W.fnOf "__init__" "TooMany.__init__" (defArgs fW) (defBody fW) (defScope fW) .none ikV_TooMany idc_TooMany ipm_TooMany ian_TooMany icd_TooMany ict_TooMany),isl_TooMany⟩) (qo:PySem.W.codeIn K icd_TooMany "TooMany.__init__" = true) (qq:PySem.W.keepIn K (.ref fI_TooMany)=true)
  (y_abs:PySem.W.nsIn K mainGlobals "abs" = some none)
  (y_int:PySem.W.nsIn K mainGlobals "int" = some none)
  (y_isinstance:PySem.W.nsIn K mainGlobals "isinstance" = some none)
  (y_len:PySem.W.nsIn K mainGlobals "len" = some none)
  (y_max:PySem.W.nsIn K mainGlobals "max" = some none)
  (y_min:PySem.W.nsIn K mainGlobals "min" = some none)
  (y_range:PySem.W.nsIn K mainGlobals "range" = some none)
  (y_repr:PySem.W.nsIn K mainGlobals "repr" = some none) :
  ∃ fd:FuncData,(∀ (s:Shared) (v:Value),BindsTo s fd ⟨[v],[]⟩ [("_law_script",v)])∧∀ base:Heap,K.In base→base.Ns mainGlobals mg→Dv l.prog base→jQ l.prog w K mg base (L2.CX l.prog w) fa fd ["_law_script"] (spLaw 63 K):=by
 have e:=hfa.symm.trans (PySem.W.mg_of X G a7)
 cases e
 have og:=PySem.W.mg_none_of X G y_abs
 have oi:=PySem.W.mg_none_of X G y_int
 have aa:=PySem.W.mg_none_of X G y_isinstance
 have b0:=PySem.W.mg_none_of X G y_len
 have oj:=PySem.W.mg_none_of X G y_max
 have ol:=PySem.W.mg_none_of X G y_min
 have aT:=PySem.W.mg_none_of X G y_range
 have cf:=PySem.W.mg_none_of X G y_repr
 have jY:Xt K mg "BadText" jV:=dG (PySem.W.mg_of X G n_BadText) oS (.cons n_BadText ⟨eL,eM,aj ae⟩ (.cons n_NoSaying ⟨df,dg,aj ad⟩ (.cons n_Clash ⟨ic,ie,aj ap⟩ (.cons n_TooMany ⟨eJ,eK,aj af⟩ (.cons n_Held ⟨kg,ki,aj ax⟩ (.cons n_Over ⟨ke,kf,aj ay⟩ (.cons n_NoRow ⟨ia,ib,aj aw⟩ (.cons n_Nought ⟨gl,gm,aj ai⟩ (.cons n_NoSpot ⟨gf,gi,aj am⟩ (.cons n_NoLabel ⟨eF,eI,aj ah⟩ .nil))))))))))
 have XT_Clash:Xt K mg "Clash" mJ:=dG (PySem.W.mg_of X G n_Clash) rm (.cons n_BadText ⟨im,ip,aj ae⟩ (.cons n_NoSaying ⟨gn,gp,aj ad⟩ (.cons n_Clash ⟨lp,lq,aj ap⟩ (.cons n_TooMany ⟨ik,il,aj af⟩ (.cons n_Held ⟨mx,my,aj ax⟩ (.cons n_Over ⟨mv,mw,aj ay⟩ (.cons n_NoRow ⟨lm,ln,aj aw⟩ (.cons n_Nought ⟨km,kn,aj ai⟩ (.cons n_NoSpot ⟨kj,kl,aj am⟩ (.cons n_NoLabel ⟨ii,ij,aj ah⟩ .nil))))))))))
 have XT_Held:Xt K mg "Held" oM:=dG (PySem.W.mg_of X G n_Held) sw (.cons n_BadText ⟨kx,ky,aj ae⟩ (.cons n_NoSaying ⟨iq,ir,aj ad⟩ (.cons n_Clash ⟨mC,mE,aj ap⟩ (.cons n_TooMany ⟨kt,ku,aj af⟩ (.cons n_Held ⟨m8,ng,aj ax⟩ (.cons n_Over ⟨m5,m6,aj ay⟩ (.cons n_NoRow ⟨mz,mB,aj aw⟩ (.cons n_Nought ⟨lw,lx,aj ai⟩ (.cons n_NoSpot ⟨lr,lt,aj am⟩ (.cons n_NoLabel ⟨ko,kq,aj ah⟩ .nil))))))))))
 have XT_KeyError:Xt K mg "KeyError" d9:=m7 (n:="KeyError") (PySem.W.mg_none_of X G y_KeyError) (by decide +kernel) (by decide) nE (.cons n_BadText ⟨dq,dt,aj ae⟩ (.cons n_NoSaying ⟨cz,cB,aj ad⟩ (.cons n_Clash ⟨gv,gw,aj ap⟩ (.cons n_TooMany ⟨dl,dm,aj af⟩ (.cons n_Held ⟨iB,iE,aj ax⟩ (.cons n_Over ⟨iu,iA,aj ay⟩ (.cons n_NoRow ⟨gs,gu,aj aw⟩ (.cons n_Nought ⟨eQ,eR,aj ai⟩ (.cons n_NoSpot ⟨eN,eP,aj am⟩ (.cons n_NoLabel ⟨di,dj,aj ah⟩ .nil))))))))))
 have XT_LayError:Xt K mg "LayError" eE:=dG (PySem.W.mg_of X G n_LayError) nG (.cons n_BadText ⟨dC,dE,aj ae⟩ (.cons n_NoSaying ⟨cE,cF,aj ad⟩ (.cons n_Clash ⟨gz,gB,aj ap⟩ (.cons n_TooMany ⟨dz,dA,aj af⟩ (.cons n_Held ⟨iN,iO,aj ax⟩ (.cons n_Over ⟨iF,iM,aj ay⟩ (.cons n_NoRow ⟨gx,gy,aj aw⟩ (.cons n_Nought ⟨eW,e7,aj ai⟩ (.cons n_NoSpot ⟨eS,eT,aj am⟩ (.cons n_NoLabel ⟨du,dy,aj ah⟩ .nil))))))))))
 have XT_LookupError:Xt K mg "LookupError" gH:=m7 (n:="LookupError") (PySem.W.mg_none_of X G y_LookupError) (by decide +kernel) (by decide) ly (.cons n_BadText ⟨b9,cb,aj ae⟩ (.cons n_NoSaying ⟨bS,bX,aj ad⟩ (.cons n_Clash ⟨cN,cS,aj ap⟩ (.cons n_TooMany ⟨b7,b8,aj af⟩ (.cons n_Held ⟨dQ,dS,aj ax⟩ (.cons n_Over ⟨dL,dP,aj ay⟩ (.cons n_NoRow ⟨cK,cL,aj aw⟩ (.cons n_Nought ⟨cj,cm,aj ai⟩ (.cons n_NoSpot ⟨cg,ci,aj am⟩ (.cons n_NoLabel ⟨b5,b6,aj ah⟩ .nil))))))))))
 have XT_NoLabel:Xt K mg "NoLabel" jW:=dG (PySem.W.mg_of X G n_NoLabel) o0 (.cons n_BadText ⟨fg,fh,aj ae⟩ (.cons n_NoSaying ⟨dT,d0,aj ad⟩ (.cons n_Clash ⟨iS,iX,aj ap⟩ (.cons n_TooMany ⟨fc,fe,aj af⟩ (.cons n_Held ⟨kB,kD,aj ax⟩ (.cons n_Over ⟨kz,kA,aj ay⟩ (.cons n_NoRow ⟨iP,iR,aj aw⟩ (.cons n_Nought ⟨gI,gL,aj ai⟩ (.cons n_NoSpot ⟨gE,gF,aj am⟩ (.cons n_NoLabel ⟨e8,fb,aj ah⟩ .nil))))))))))
 have XT_NoRow:Xt K mg "NoRow" mK:=dG (PySem.W.mg_of X G n_NoRow) rn (.cons n_BadText ⟨i6,i7,aj ae⟩ (.cons n_NoSaying ⟨gN,gO,aj ad⟩ (.cons n_Clash ⟨lL,lP,aj ap⟩ (.cons n_TooMany ⟨i4,i5,aj af⟩ (.cons n_Held ⟨mM,mP,aj ax⟩ (.cons n_Over ⟨mI,mL,aj ay⟩ (.cons n_NoRow ⟨lz,lI,aj aw⟩ (.cons n_Nought ⟨kH,kI,aj ai⟩ (.cons n_NoSpot ⟨kF,kG,aj am⟩ (.cons n_NoLabel ⟨i0,i3,aj ah⟩ .nil))))))))))
 have XT_NoSaying:Xt K mg "NoSaying" jA:=dG (PySem.W.mg_of X G n_NoSaying) nI (.cons n_BadText ⟨eh,ei,aj ae⟩ (.cons n_NoSaying ⟨cT,c8,aj ad⟩ (.cons n_Clash ⟨gT,gX,aj ap⟩ (.cons n_TooMany ⟨ec,eg,aj af⟩ (.cons n_Held ⟨ja,jb,aj ax⟩ (.cons n_Over ⟨i8,i9,aj ay⟩ (.cons n_NoRow ⟨gP,gS,aj aw⟩ (.cons n_Nought ⟨fq,fw,aj ai⟩ (.cons n_NoSpot ⟨fi,fk,aj am⟩ (.cons n_NoLabel ⟨d5,d6,aj ah⟩ .nil))))))))))
 have XT_NoSpot:Xt K mg "NoSpot" lA:=dG (PySem.W.mg_of X G n_NoSpot) qx (.cons n_BadText ⟨g9,hD,aj ae⟩ (.cons n_NoSaying ⟨fy,fz,aj ad⟩ (.cons n_Clash ⟨kM,kN,aj ap⟩ (.cons n_TooMany ⟨g4,g7,aj af⟩ (.cons n_Held ⟨lT,l8,aj ax⟩ (.cons n_Over ⟨lR,lS,aj ay⟩ (.cons n_NoRow ⟨kK,kL,aj aw⟩ (.cons n_Nought ⟨jp,jq,aj ai⟩ (.cons n_NoSpot ⟨jl,jn,aj am⟩ (.cons n_NoLabel ⟨gZ,g0,aj ah⟩ .nil))))))))))
 have XT_Nought:Xt K mg "Nought" lB:=dG (PySem.W.mg_of X G n_Nought) qy (.cons n_BadText ⟨hL,hQ,aj ae⟩ (.cons n_NoSaying ⟨fA,fC,aj ad⟩ (.cons n_Clash ⟨kQ,kR,aj ap⟩ (.cons n_TooMany ⟨hI,hK,aj af⟩ (.cons n_Held ⟨mf,mh,aj ax⟩ (.cons n_Over ⟨l9,md,aj ay⟩ (.cons n_NoRow ⟨kO,kP,aj aw⟩ (.cons n_Nought ⟨jz,jI,aj ai⟩ (.cons n_NoSpot ⟨js,jv,aj am⟩ (.cons n_NoLabel ⟨hE,hG,aj ah⟩ .nil))))))))))
 have XT_Over:Xt K mg "Over" oN:=dG (PySem.W.mg_of X G n_Over) sx (.cons n_BadText ⟨k8,k9,aj ae⟩ (.cons n_NoSaying ⟨jS,j0,aj ad⟩ (.cons n_Clash ⟨mT,m0,aj ap⟩ (.cons n_TooMany ⟨kU,kX,aj af⟩ (.cons n_Held ⟨nl,nn,aj ax⟩ (.cons n_Over ⟨nh,nk,aj ay⟩ (.cons n_NoRow ⟨mR,mS,aj aw⟩ (.cons n_Nought ⟨mn,mo,aj ai⟩ (.cons n_NoSpot ⟨ml,mm,aj am⟩ (.cons n_NoLabel ⟨kS,kT,aj ah⟩ .nil))))))))))
 have XT_TooMany:Xt K mg "TooMany" jX:=dG (PySem.W.mg_of X G n_TooMany) o4 (.cons n_BadText ⟨fS,fT,aj ae⟩ (.cons n_NoSaying ⟨em,ew,aj ad⟩ (.cons n_Clash ⟨j3,j4,aj ap⟩ (.cons n_TooMany ⟨fN,fR,aj af⟩ (.cons n_Held ⟨lc,ld,aj ax⟩ (.cons n_Over ⟨la,lb,aj ay⟩ (.cons n_NoRow ⟨j1,j2,aj aw⟩ (.cons n_Nought ⟨hV,hX,aj ai⟩ (.cons n_NoSpot ⟨hR,hU,aj am⟩ (.cons n_NoLabel ⟨fE,fF,aj ah⟩ .nil))))))))))
 have XT_ValueError:Xt K mg "ValueError" iy:=m7 (n:="ValueError") (PySem.W.mg_none_of X G y_ValueError) (by decide +kernel) (by decide) m4 (.cons n_BadText ⟨cu,cw,aj ae⟩ (.cons n_NoSaying ⟨cc,ce,aj ad⟩ (.cons n_Clash ⟨eB,eD,aj ap⟩ (.cons n_TooMany ⟨cr,cs,aj af⟩ (.cons n_Held ⟨gb,gd,aj ax⟩ (.cons n_Over ⟨f8,f9,aj ay⟩ (.cons n_NoRow ⟨ez,eA,aj aw⟩ (.cons n_Nought ⟨db,dc,aj ai⟩ (.cons n_NoSpot ⟨c9,da,aj am⟩ (.cons n_NoLabel ⟨cp,cq,aj ah⟩ .nil))))))))))
 have XT_ZeroDivisionError:Xt K mg "ZeroDivisionError" bx:=m7 (n:="ZeroDivisionError") (PySem.W.mg_none_of X G y_ZeroDivisionError) (by decide +kernel) (by decide) de (.cons n_BadText ⟨bc,be,aj ae⟩ (.cons n_NoSaying ⟨aL,aS,aj ad⟩ (.cons n_Clash ⟨bv,bw,aj ap⟩ (.cons n_TooMany ⟨ba,bb,aj af⟩ (.cons n_Held ⟨bE,bI,aj ax⟩ (.cons n_Over ⟨bz,bC,aj ay⟩ (.cons n_NoRow ⟨bt,bu,aj aw⟩ (.cons n_Nought ⟨bj,bo,aj ai⟩ (.cons n_NoSpot ⟨bg,bi,aj am⟩ (.cons n_NoLabel ⟨a8,a9,aj ah⟩ .nil))))))))))
 have XF_at:Xf K "at" uE:=⟨(.cons n_BadText ⟨xfB_ok o5,lh⟩ .nil)⟩
 have XF_label:Xf K "label" mO:=⟨(.cons n_NoLabel ⟨xfB_ok pd,lj⟩ .nil)⟩
 have XF_lot:Xf K "lot" rK:=⟨(.cons n_Clash ⟨xfB_ok rq,nr⟩ .nil)⟩
 have XF_most:Xf K "most" jF:=⟨(.cons n_TooMany ⟨xfB_ok o6,li⟩ .nil)⟩
 have XF_spot:Xf K "spot" oO:=⟨(.cons n_NoSpot ⟨xfB_ok qz,mq⟩ .nil)⟩
 have XF_word:Xf K "word" oR:=⟨(.cons n_NoSaying ⟨xfB_ok nK,h8⟩ .nil)⟩
 have E0_Held:kY K mg "Held":=⟨C_Held,_,_,_,_,n_Held,PySem.W.mg_of X G n_Held,PySem.F.excBase_ValueError,sz,sA,sB,sC⟩
 have E0_NoRow:kY K mg "NoRow":=⟨C_NoRow,_,_,_,_,n_NoRow,PySem.W.mg_of X G n_NoRow,PySem.F.excBase_ValueError,rs,rL,rS,rT⟩
 have E0_Nought:kY K mg "Nought":=⟨C_Nought,_,_,_,_,n_Nought,PySem.W.mg_of X G n_Nought,PySem.F.excBase_ZeroDivisionError,qA,qB,qE,qS⟩
 have E0_Over:kY K mg "Over":=⟨C_Over,_,_,_,_,n_Over,PySem.W.mg_of X G n_Over,PySem.F.excBase_ValueError,sD,sF,sK,sL⟩
 have FI_BadText:=bU (st:=fU) pv px pz (.inl rfl)
 have FI_Clash:=bU (st:=jk) sl sq sr (.inl rfl)
 have FI_NoLabel:=bU (st:=fV) p0 p7 p8 (.inl rfl)
 have FI_NoSaying:=bU (st:=eO) n7 n8 n9 (.inl rfl)
 have FI_NoSpot:=bU (st:=gY) rc re rf (.inl rfl)
 have FI_TooMany:=bU (st:=fW) qk qo qq (.inl rfl)
 have F0:=bU (st:=bO) l0 c0 k0 (.inl rfl)
 have F1:=bU (st:=bR) l1 c1 k1 (.inl rfl)
 have F2:=bU (st:=bD) l2 c2 k2 (.inl rfl)
 have F3:=bU (st:=bA) l3 c3 k3 (.inl rfl)
 have F4:=bU (st:=bJ) l4 c4 k4 (.inl rfl)
 have F5:=bU (st:=bQ) l5 c5 k5 (.inl rfl)
 have F6:=bU (st:=bB) l6 c6 k6 (.inl rfl)
 have F7:=bU (st:=cV) l7 c7 k7 (.inl rfl)
 refine ⟨PySem.W.fnOf "law" "law" (defArgs cV) (defBody cV) (defScope cV) .none kV7 dc7 pm7 an7 cd7 ct7,fun s v=>.of_eq rfl,fun base _ _ hv=>?_⟩
 have cx:kZ l.prog w K mg base "BadText" "at":=⟨⟨C_BadText,fI_BadText,_,_,n_BadText,PySem.W.mg_of X G n_BadText,⟨⟨_,_,_,_,_,_,_,_,_,_,_,_,_,_,_,pf,ph⟩,pj,pl,po,pk⟩,pp,pu,lh,lE (f:="at") FI_BadText rR (.inl rfl) (.inl rfl) (by decide) (by decide) (by decide) (by decide),FI_BadText.bindsN fun _ _ _ _ _ _ us hl=>match us,hl with | [_,_],_=>rfl⟩⟩
 have h9:kZ l.prog w K mg base "Clash" "lot":=⟨⟨C_Clash,fI_Clash,_,_,n_Clash,PySem.W.mg_of X G n_Clash,⟨⟨_,_,_,_,_,_,_,_,_,_,_,_,_,_,_,rU,rV⟩,rX,r7,r8,r4⟩,r9,sj,nr,lE (f:="lot") FI_Clash vJ (.inl rfl) (.inl rfl) (by decide) (by decide) (by decide) (by decide),FI_Clash.bindsN fun _ _ _ _ _ _ us hl=>match us,hl with | [_,_],_=>rfl⟩⟩
 have cy:qQ l.prog w K mg base "NoLabel" "label":=⟨⟨C_NoLabel,fI_NoLabel,_,_,n_NoLabel,PySem.W.mg_of X G n_NoLabel,⟨⟨_,_,_,_,_,_,_,_,_,_,_,_,_,_,_,pE,pI⟩,pL,pR,pS,pM⟩,pT,pV,lj,qP (f:="label") FI_NoLabel rW (.inl rfl) (.inl rfl) (by decide) (by decide) (by decide) (by decide),FI_NoLabel.bindsN fun _ _ _ _ _ _ us hl=>match us,hl with | [_,_],_=>rfl⟩⟩
 have b3:kZ l.prog w K mg base "NoSaying" "word":=⟨⟨C_NoSaying,fI_NoSaying,_,_,n_NoSaying,PySem.W.mg_of X G n_NoSaying,⟨⟨_,_,_,_,_,_,_,_,_,_,_,_,_,_,_,nP,nS⟩,nT,nX,n4,nV⟩,n5,n6,h8,lE (f:="word") FI_NoSaying rQ (.inl rfl) (.inl rfl) (by decide) (by decide) (by decide) (by decide),FI_NoSaying.bindsN fun _ _ _ _ _ _ us hl=>match us,hl with | [_,_],_=>rfl⟩⟩
 have aI:qQ l.prog w K mg base "NoSpot" "spot":=⟨⟨C_NoSpot,fI_NoSpot,_,_,n_NoSpot,PySem.W.mg_of X G n_NoSpot,⟨⟨_,_,_,_,_,_,_,_,_,_,_,_,_,_,_,qV,q0⟩,q4,q7,q8,q5⟩,q9,rb,mq,qP (f:="spot") FI_NoSpot uG (.inl rfl) (.inl rfl) (by decide) (by decide) (by decide) (by decide),FI_NoSpot.bindsN fun _ _ _ _ _ _ us hl=>match us,hl with | [_,_],_=>rfl⟩⟩
 have aB:kZ l.prog w K mg base "TooMany" "most":=⟨⟨C_TooMany,fI_TooMany,_,_,n_TooMany,PySem.W.mg_of X G n_TooMany,⟨⟨_,_,_,_,_,_,_,_,_,_,_,_,_,_,_,p9,qa⟩,qc,qf,qg,qe⟩,qh,qi,li,lE (f:="most") FI_TooMany rY (.inl rfl) (.inl rfl) (by decide) (by decide) (by decide) (by decide),FI_TooMany.bindsN fun _ _ _ _ _ _ us hl=>match us,hl with | [_,_],_=>rfl⟩⟩
 have bN:Df l.prog w K mg base 1 "_law_feed" ["_law_script","_law_k"] fQ (iz K):=⟨f0,_,fn_ok F0 cY 2 4 rfl rfl (fun cdv A outer s H E hr=>oU hr og oi b0),PySem.W.mg_of X G a0,k0,je (F0.bindsN fun _ _ _ _ _ _ us hl=>match us,hl with | [_,_],_=>rfl) rfl⟩
 have bp:Df l.prog w K mg base 1 "_law_kinds" ["_law_e"] cZ (gJ K):=⟨f3,_,fn_ok F3 cQ 1 3 rfl rfl (fun cdv A outer s H E hr=>nO hr aa jY XT_Clash XT_Held XT_KeyError XT_LayError XT_LookupError XT_NoLabel XT_NoRow XT_NoSaying XT_NoSpot XT_Nought XT_Over XT_TooMany XT_ValueError XT_ZeroDivisionError),PySem.W.mg_of X G a3,k3,je (F3.bindsN fun _ _ _ _ _ _ us hl=>match us,hl with | [_],_=>rfl) rfl⟩
 have b4:Df l.prog w K mg base 1 "_law_due" ["_law_at"] eG (ji K):=⟨f4,_,fn_ok F4 jh 1 3 rfl rfl (fun cdv A outer s H E hr=>pG hr aT),PySem.W.mg_of X G a4,k4,je (F4.bindsN fun _ _ _ _ _ _ us hl=>match us,hl with | [_],_=>rfl) rfl⟩
 have bP:Df l.prog w K mg base 3 "_law_made" ["_law_at","_law_thing_here"] dH (iD K):=⟨f5,_,fn_ok F5 bV 2 3 rfl rfl (fun cdv A outer s H E hr=>oV hr XF_at XF_label XF_lot XF_most XF_spot XF_word E0_Held E0_NoRow E0_Nought E0_Over cx h9 cy b3 aI aB),PySem.W.mg_of X G a5,k5,je (F5.bindsN fun _ _ _ _ _ _ us hl=>match us,hl with | [_,_],_=>rfl) rfl⟩
 have bq:Df l.prog w K mg base 3 "_law_taken" ["_law_thing_here"] cH (gK K):=⟨f6,_,fn_ok F6 cR 1 3 rfl rfl (fun cdv A outer s H E hr=>nQ hr XT_KeyError XT_LayError XT_ZeroDivisionError XF_most E0_Nought aI aB),PySem.W.mg_of X G a6,k6,je (F6.bindsN fun _ _ _ _ _ _ us hl=>match us,hl with | [_],_=>rfl) rfl⟩
 have az:Df l.prog w K mg base 33 "_law_draw" ["_law_feed_here","_law_many"] cU (dh K):=⟨f1,_,fn_ok F1 iG 2 4 rfl rfl (fun cdv A outer s H E hr=>oW hr hv),PySem.W.mg_of X G a1,k1,je (F1.bindsN fun _ _ _ _ _ _ us hl=>match us,hl with | [_,_],_=>rfl) rfl⟩
 have aE:Df l.prog w K mg base 34 "_law_thing" ["_law_feed_here"] dw (dO K):=⟨f2,_,fn_ok F2 jG 1 2 rfl rfl (fun cdv A outer s H E hr=>nR hr az),PySem.W.mg_of X G a2,k2,je (F2.bindsN fun _ _ _ _ _ _ us hl=>match us,hl with | [_],_=>rfl) rfl⟩
 exact vZ (zf F7 dI 1 7 rfl rfl (k:=34) ⟨rfl,by decide,by decide⟩ (fun cdv A outer s H E hr hg=>vG hr hg b0 oj ol aT cf bN aE bp b4 bP bq)) wk
end tL
open PySem PySem.W PyProof.Rows
theorem PySem.Challenge.cw_firmlay_k01_refusals_holds : PySem.Challenge.rw_firmlay_k01_refusals.Holds := by
 refine kopf ?_
 k_fill
 refine Mir.walk_topD (l := PySem.Challenge.rw_firmlay_k01_refusals) (n := 63) (x := "_law_script") (CX := fun w => L2.CX PySem.Challenge.rw_firmlay_k01_refusals.prog w) (sp := fun w => Mir.spLaw 63 _) rfl (by decide) rfl ?hq rfl (fun w h Y => PySem.W.kIn_of Y) ?F (fun _ _ a ns hl hb _ hS => ⟨a, ns, rfl, hS, hl, hb, fun _ => rfl⟩) (fun _ _ _ _ _ h => Mir.noX h)
 case hq=>decide +kernel
 case F =>
  intro w mg fa h KX G hmg
  refine' tL.all_mk KX G hmg ..
  all_goals first | k_is | kernel_rfl | rfl | skip
