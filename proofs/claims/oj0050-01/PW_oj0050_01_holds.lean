import PyProof.Rows.All
import Wide.All
import OpenK.AllK
import Wide.FinOn
import Lean
import PySem.Challenge.RW_oj0050_01
set_option Elab.async false
set_option linter.all false
set_option maxRecDepth 100000
set_option maxHeartbeats 8000000
set_option genSizeOf false
namespace Mine
theorem ar_k {a b n:Nat} (h:Nat.ble a b = true):a ≤ n + b:=Nat.le_trans (Nat.le_of_ble_eq_true h) (Nat.le_add_left b n)
theorem ar_dn {a b c n:Nat} (h:a ≤ n + b) (e:Nat.ble (c + b) a = true):c ≤ n:=Nat.le_of_add_le_add_right (Nat.le_trans (Nat.le_of_ble_eq_true e) h)
theorem ar_dk {a c n:Nat} (h:a ≤ n) (e:Nat.ble c a = true):c ≤ n:=Nat.le_trans (Nat.le_of_ble_eq_true e) h
theorem ar_up {x a b:Nat} (h:x ≤ a) (e:Nat.ble a b = true):x ≤ b:=Nat.le_trans h (Nat.le_of_ble_eq_true e)
theorem ar_ul {x a b:Nat} (h:x ≤ a) (e:Nat.ble (a + 1) b = true):x < b:=Nat.lt_of_le_of_lt h (Nat.le_of_ble_eq_true e)
theorem ar_up2 {x y a b:Nat} (h:x ≤ y) (k:y ≤ a) (e:Nat.ble a b = true):x ≤ b:=Nat.le_trans h (Nat.le_trans k (Nat.le_of_ble_eq_true e))
theorem ar_ul2 {x y a b:Nat} (h:x ≤ y) (k:y ≤ a) (e:Nat.ble (a + 1) b = true):x < b:=Nat.lt_of_le_of_lt (Nat.le_trans h k) (Nat.le_of_ble_eq_true e)
theorem ar_pr {a b:Nat} (h:a < b):b = b - 1 + 1:=(Nat.succ_pred_eq_of_pos (Nat.lt_of_le_of_lt (Nat.zero_le a) h)).symm
theorem ar_z {n:Nat}:0 ≤ n:=Nat.zero_le n
theorem ar_r {n k:Nat}:n ≤ n + k:=Nat.le_add_right n k
theorem ar_s {n:Nat}:n < n + 1:=Nat.lt_succ_self n
theorem ar_l {a b:Nat} (h:a < b):a ≤ b:=Nat.le_of_lt h
theorem ar_t1 {a b c:Nat} (h:a < b) (k:b ≤ c):a < c:=Nat.lt_of_lt_of_le h k
theorem ar_t2 {a b c:Nat} (k:b ≤ c) (h:a < b):a < c:=Nat.lt_of_lt_of_le h k
theorem ar_t3 {a b c:Nat} (h:a ≤ b) (k:b < c):a < c:=Nat.lt_of_le_of_lt h k
theorem ar_t4 {a b c:Nat} (k:b < c) (h:a ≤ b):a < c:=Nat.lt_of_le_of_lt h k
theorem ar_t5 {a b c:Nat} (h:a ≤ b) (k:b ≤ c):a ≤ c:=Nat.le_trans h k
theorem ar_t6 {a b c:Nat} (k:b ≤ c) (h:a ≤ b):a ≤ c:=Nat.le_trans h k
theorem ar_t7 {a b c:Nat} (h:a < b) (k:b < c):a < c:=Nat.lt_trans h k
theorem ar_t8 {a b c:Nat} (h:a < b) (k:b < c + 1):a < c:=Nat.lt_of_lt_of_le h (Nat.le_of_lt_succ k)
theorem ar_t9 {a b c:Nat} (k:b < c + 1) (h:a < b):a < c:=Nat.lt_of_lt_of_le h (Nat.le_of_lt_succ k)
theorem ar_ta {a b c d:Nat} (h:a ≤ b) (k:b < c) (l:c ≤ d):a < d:=Nat.lt_of_lt_of_le (Nat.lt_of_le_of_lt h k) l
theorem ar_tb {a b c d:Nat} (h:a < b) (k:b ≤ c) (l:c ≤ d):a < d:=Nat.lt_of_lt_of_le h (Nat.le_trans k l)
theorem ar_tc {a b c d:Nat} (l:c ≤ d) (h:a < b) (k:b ≤ c):a < d:=Nat.lt_of_lt_of_le h (Nat.le_trans k l)
theorem ar_td {a b c:Nat} (h:a < b) (k:b ≤ c):a ≤ c:=Nat.le_of_lt (Nat.lt_of_lt_of_le h k)
theorem ar_te {a b c:Nat} (k:b ≤ c) (h:a < b):a ≤ c:=Nat.le_of_lt (Nat.lt_of_lt_of_le h k)
theorem ar_tf {a b:Nat} (h:a + 1 < b + 1):a < b:=Nat.lt_of_succ_lt_succ h
theorem ar_tg {a b:Nat} (h:a + 1 ≤ b):a < b:=h
end Mine
set_option compiler.extract_closed false
namespace Mine.Tq
open Lean
def a (s:String):Syntax:=.atom .none s
def n (s:String) (l:List Syntax):Syntax:=.node .none s.toName l.toArray
def q (k:String) (l:List Syntax):Syntax:=n ("Lean.Parser.Tactic." ++ k) l
def sq (l:List Syntax):Syntax:=q "tacticSeq" [q "tacticSeq1Indented" [n "null" (l.intersperse (a ";"))]]
def pr (l:List Syntax):Syntax:=q "paren" [a "(",sq l,a ")"]
def fs (l:List Syntax):Syntax:=q "first" [a "first",n "null" (l.map fun t=>n "group" [a "|",sq [t]])]
def dn (t:Syntax):Syntax:=q "focus" [a "focus",sq [t,q "done" [a "done"]]]
def th (x y:Syntax):Syntax:=.node .none (.str `Lean.Parser.Tactic "tactic_<;>_") #[x,a "<;>",y]
def rd (t:Syntax):Syntax:=q "withReducible" [a "with_reducible",sq [t]]
def id (s:String):Syntax:=mkIdent (.str `Mine s)
def ws (f:Syntax→Syntax) (l:String):Syntax:=rd (fs ((l.splitOn " ").map fun w=>f (id w)))
def ap:String→Syntax:=ws fun i=>q "apply" [a "apply",i]
def sh:String→Syntax:=ws fun i=>q "show" [a "show",.node .none (.mkSimple "term_=_") #[n "Lean.Parser.Term.app" [i,n "null" [n "Lean.Parser.Term.ellipsis" [a ".."]]],a "=",n "Lean.Parser.Term.hole" [a "_"]]]
def rf:Syntax:=q "exact" [a "exact",mkIdent `rfl]
def as:Syntax:=q "assumption" [a "assumption"]
def ln:Syntax:=fs ([rd as] ++ ("ar_k ar_dn ar_dk ar_up ar_ul ar_up2 ar_ul2 ar_pr ar_z ar_r ar_s ar_l ar_t1 ar_t2 ar_t3 ar_t4 ar_t5 ar_t6 ar_t7 ar_t8 ar_t9 ar_ta ar_tb ar_tc ar_td ar_te ar_tf ar_tg".splitOn " ").map (fun w=>th (ap w) (fs [rd as,rf])) ++ [rd (q "decide" [a "decide",n "Lean.Parser.Tactic.optConfig" [n "null" []]])])
end Mine.Tq
open Lean in
local macro_rules
  | `(tactic| lia)=>do `(tactic| first | $(⟨Mine.Tq.ln⟩):tactic | lia (splits:=9))
section
set_option tactic.hygienic false
open PySem PySem.W PyProof.Rows PySem.Spec PySem.Calls
namespace Mine
noncomputable def stm (i:Nat):Stmt:=PySem.Challenge.pw_oj0050_01.main.body.getD i (.Pass default)
noncomputable def bodyOf:Stmt→List Stmt
  | .FunctionDef _ _ b _ _ _ _ _ _ _=>b
  | .ClassDef _ _ _ b _ _ _ _ _ _ _=>b
  | _=>[]
noncomputable def scopeOf:Stmt→Scope
  | .FunctionDef _ _ _ _ _ _ s _ _ _=>s
  | _=>default
noncomputable def paramsOf:Stmt→Arguments
  | .FunctionDef _ a _ _ _ _ _ _ _ _=>a
  | _=>default
noncomputable def initStm:Stmt:=(bodyOf (stm 1)).getD 0 (.Pass default)
end Mine
end
section
open PySem PySem.W PyProof.Rows PySem.Spec PySem.Calls
namespace Mine
noncomputable def kH (P:Params):Frag:=[(3,{ cls:=Value.type "dict",data:=Data.dict #[{ hash:=PyData.keyHash P (Str.ofString "__name__"),key:=Value.str (Str.ofString "__name__") 165,val:=Value.str (Str.ofString "law_oj0050_01") 428 },{ hash:=PyData.keyHash P (Str.ofString "__doc__"),key:=Value.str (Str.ofString "__doc__") 166,val:=Value.none },{ hash:=PyData.keyHash P (Str.ofString "__package__"),key:=Value.str (Str.ofString "__package__") 167,val:=Value.none },{ hash:=PyData.keyHash P (Str.ofString "__loader__"),key:=Value.str (Str.ofString "__loader__") 168,val:=Value.builtin "__main__.__loader__#opaque" },{ hash:=PyData.keyHash P (Str.ofString "__spec__"),key:=Value.str (Str.ofString "__spec__") 169,val:=Value.none },{ hash:=PyData.keyHash P (Str.ofString "__annotations__"),key:=Value.str (Str.ofString "__annotations__") 170,val:=Value.ref 6 },{ hash:=PyData.keyHash P (Str.ofString "__builtins__"),key:=Value.str (Str.ofString "__builtins__") 171,val:=Value.ref 4 },{ hash:=PyData.keyHash P (Str.ofString "__file__"),key:=Value.str (Str.ofString "__file__") 173,val:=Value.str (Str.ofString "/claim/cut.py") 172 },{ hash:=PyData.keyHash P (Str.ofString "__cached__"),key:=Value.str (Str.ofString "__cached__") 174,val:=Value.none },{ hash:=PyData.keyHash P (Str.ofString "Raised"),key:=Value.str (Str.ofString "Raised") 232,val:=Value.ref 33 },{ hash:=PyData.keyHash P (Str.ofString "error"),key:=Value.str (Str.ofString "error") 241,val:=Value.ref 45 },{ hash:=PyData.keyHash P (Str.ofString "digit"),key:=Value.str (Str.ofString "digit") 251,val:=Value.ref 52 },{ hash:=PyData.keyHash P (Str.ofString "hex_sign"),key:=Value.str (Str.ofString "hex_sign") 265,val:=Value.ref 59 },{ hash:=PyData.keyHash P (Str.ofString "octal_sign"),key:=Value.str (Str.ofString "octal_sign") 276,val:=Value.ref 66 },{ hash:=PyData.keyHash P (Str.ofString "backslash"),key:=Value.str (Str.ofString "backslash") 287,val:=Value.ref 73 },{ hash:=PyData.keyHash P (Str.ofString "is_gap"),key:=Value.str (Str.ofString "is_gap") 294,val:=Value.ref 80 },{ hash:=PyData.keyHash P (Str.ofString "skip_gaps"),key:=Value.str (Str.ofString "skip_gaps") 302,val:=Value.ref 87 },{ hash:=PyData.keyHash P (Str.ofString "comment_behind"),key:=Value.str (Str.ofString "comment_behind") 311,val:=Value.ref 94 },{ hash:=PyData.keyHash P (Str.ofString "skip_to_command"),key:=Value.str (Str.ofString "skip_to_command") 319,val:=Value.ref 101 },{ hash:=PyData.keyHash P (Str.ofString "read_name"),key:=Value.str (Str.ofString "read_name") 327,val:=Value.ref 108 },{ hash:=PyData.keyHash P (Str.ofString "variable"),key:=Value.str (Str.ofString "variable") 339,val:=Value.ref 115 },{ hash:=PyData.keyHash P (Str.ofString "brackets"),key:=Value.str (Str.ofString "brackets") 350,val:=Value.ref 122 },{ hash:=PyData.keyHash P (Str.ofString "braces"),key:=Value.str (Str.ofString "braces") 365,val:=Value.ref 129 },{ hash:=PyData.keyHash P (Str.ofString "parts_until"),key:=Value.str (Str.ofString "parts_until") 381,val:=Value.ref 136 },{ hash:=PyData.keyHash P (Str.ofString "bare_stops"),key:=Value.str (Str.ofString "bare_stops") 388,val:=Value.ref 143 },{ hash:=PyData.keyHash P (Str.ofString "is_expanded"),key:=Value.str (Str.ofString "is_expanded") 397,val:=Value.ref 150 },{ hash:=PyData.keyHash P (Str.ofString "word"),key:=Value.str (Str.ofString "word") 412,val:=Value.ref 157 },{ hash:=PyData.keyHash P (Str.ofString "command_at"),key:=Value.str (Str.ofString "command_at") 427,val:=Value.ref 165 },{ hash:=PyData.keyHash P (Str.ofString "_law_pieces"),key:=Value.str (Str.ofString "_law_pieces") 435,val:=Value.ref 172 },{ hash:=PyData.keyHash P (Str.ofString "_law_told_texts"),key:=Value.str (Str.ofString "_law_told_texts") 441,val:=Value.ref 179 },{ hash:=PyData.keyHash P (Str.ofString "_law_closed"),key:=Value.str (Str.ofString "_law_closed") 450,val:=Value.ref 186 },{ hash:=PyData.keyHash P (Str.ofString "_law_read"),key:=Value.str (Str.ofString "_law_read") 462,val:=Value.ref 193 },{ hash:=PyData.keyHash P (Str.ofString "_law_none_earlier"),key:=Value.str (Str.ofString "_law_none_earlier") 474,val:=Value.ref 200 },{ hash:=PyData.keyHash P (Str.ofString "_law_alone"),key:=Value.str (Str.ofString "_law_alone") 480,val:=Value.ref 205 },{ hash:=PyData.keyHash P (Str.ofString "_law_script_right"),key:=Value.str (Str.ofString "_law_script_right") 486,val:=Value.ref 210 },{ hash:=PyData.keyHash P (Str.ofString "_law_closers_right"),key:=Value.str (Str.ofString "_law_closers_right") 497,val:=Value.ref 217 },{ hash:=PyData.keyHash P (Str.ofString "_law_text_right"),key:=Value.str (Str.ofString "_law_text_right") 512,val:=Value.ref 224 },{ hash:=PyData.keyHash P (Str.ofString "law"),key:=Value.str (Str.ofString "law") 518,val:=Value.ref 229 }] 38 }),
  (23,{ cls:=Value.type "tuple",data:=Data.seq #[Value.ref 22,Value.int 0 202,Value.int 0 203] }),
  (29,{ cls:=Value.type "code",data:=Data.fields #[Value.str (Str.ofString "__init__") 204,Value.str (Str.ofString "Raised.__init__") 205,Value.str (Str.ofString "/claim/cut.py") 206,Value.int 4 0,Value.int 6 0,Value.int 0 0,Value.int 0 0,Value.int 3 0,Value.ref 24,Value.bool true,Value.int 181 0,Value.ref 25,Value.none,Value.ref 26,Value.ref 27,Value.ref 28,Value.int 213 0,Value.int 4 0,Value.str (Str.ofString "/claim/cut.py") 214] }),
  (30,{ cls:=Value.type "function",data:=Data.func { name:=Str.ofString "__init__",qualname:=Str.ofString "Raised.__init__",params:=paramsOf initStm,body:=.stmts (bodyOf initStm),scope:=scopeOf initStm,globals:=3,closure:=[],defaults:=Value.ref 23,kwdefaults:=Value.none,pyModule:=Value.str (Str.ofString "tclcore.faults") 187,code:=Value.ref 29 } }),
  (32,{ cls:=Value.type "dict",data:=Data.dict #[{ hash:=PyData.keyHash P (Str.ofString "__module__"),key:=Value.str (Str.ofString "__module__") 196,val:=Value.str (Str.ofString "tclcore.faults") 187 },{ hash:=PyData.keyHash P (Str.ofString "__firstlineno__"),key:=Value.str (Str.ofString "__firstlineno__") 200,val:=Value.int 2 199 },{ hash:=PyData.keyHash P (Str.ofString "__init__"),key:=Value.str (Str.ofString "__init__") 215,val:=Value.ref 30 },{ hash:=PyData.keyHash P (Str.ofString "__static_attributes__"),key:=Value.str (Str.ofString "__static_attributes__") 225,val:=Value.ref 31 },{ hash:=PyData.keyHash P (Str.ofString "__weakref__"),key:=Value.str (Str.ofString "__weakref__") 227,val:=Value.ref 34 },{ hash:=PyData.keyHash P (Str.ofString "__doc__"),key:=Value.str (Str.ofString "__doc__") 228,val:=Value.none }] 3 }),
  (33,{ cls:=Value.type "type",data:=Data.cls { name:=Str.ofString "Raised",bases:=[Value.type "Exception"],mro:=[Value.ref 33,Value.type "Exception",Value.type "BaseException",Value.type "object"],ns:=32,qualname:=Str.ofString "Raised" },slots:=#[some (Value.ref 15),none,some (Value.str (Str.ofString "Raised") 189),some (Value.str (Str.ofString "Raised") 197),some (Value.builtin "Exception.__new__"),some (Value.bool true)] }),
  (37,{ cls:=Value.type "tuple",data:=Data.seq #[Value.str (Str.ofString "NONE") 233] }),
  (38,{ cls:=Value.type "tuple",data:=Data.seq #[Value.ref 37] }),
  (44,{ cls:=Value.type "code",data:=Data.fields #[Value.str (Str.ofString "error") 234,Value.str (Str.ofString "error") 235,Value.str (Str.ofString "/claim/cut.py") 236,Value.int 15 0,Value.int 2 0,Value.int 0 0,Value.int 0 0,Value.int 3 0,Value.ref 39,Value.bool true,Value.int 181 0,Value.ref 40,Value.none,Value.ref 41,Value.ref 42,Value.ref 43,Value.int 239 0,Value.int 15 0,Value.str (Str.ofString "/claim/cut.py") 240] }),
  (45,{ cls:=Value.type "function",data:=Data.func { name:=Str.ofString "error",qualname:=Str.ofString "error",params:=paramsOf (stm 2),body:=.stmts (bodyOf (stm 2)),scope:=scopeOf (stm 2),globals:=3,closure:=[],defaults:=Value.ref 38,kwdefaults:=Value.none,pyModule:=Value.str (Str.ofString "tclcore.faults") 187,code:=Value.ref 44 } }),
  (158,{ cls:=Value.type "tuple",data:=Data.seq #[Value.bool false] }),
  (164,{ cls:=Value.type "code",data:=Data.fields #[Value.str (Str.ofString "command_at") 413,Value.str (Str.ofString "command_at") 414,Value.str (Str.ofString "/claim/cut.py") 415,Value.int 224 0,Value.int 3 0,Value.int 0 0,Value.int 0 0,Value.int 3 0,Value.ref 159,Value.bool true,Value.int 181 0,Value.ref 160,Value.none,Value.ref 161,Value.ref 162,Value.ref 163,Value.int 425 0,Value.int 224 0,Value.str (Str.ofString "/claim/cut.py") 426] }),
  (165,{ cls:=Value.type "function",data:=Data.func { name:=Str.ofString "command_at",qualname:=Str.ofString "command_at",params:=paramsOf (stm 21),body:=.stmts (bodyOf (stm 21)),scope:=scopeOf (stm 21),globals:=3,closure:=[],defaults:=Value.ref 158,kwdefaults:=Value.none,pyModule:=Value.str (Str.ofString "tclcore.words") 252,code:=Value.ref 164 } })]
noncomputable def asH:List Addr:=[3,23,29,30,32,33,37,38,44,45,158,164,165]
noncomputable def posOf:Stmt→Pos
  | .FunctionDef _ _ _ _ _ _ _ _ _ p=>p
  | _=>default
noncomputable def vwIx:List Nat:=[1,4,6,7,8,9,10,11,12,13,14,15,16,17,18,19,20,23,24,25,26,27,28,29,30,31,32]
noncomputable def vw:Program:={ PySem.Challenge.pw_oj0050_01 with main:={ PySem.Challenge.pw_oj0050_01.main with body:=vwIx.map stm } }
noncomputable abbrev lo:List Str:=[Str.ofString "Raised",Str.ofString "error",Str.ofString "command_at"]
noncomputable abbrev Hk:Hook:=kHook kH asH (fun _=>rfl)
noncomputable abbrev RR:RowW:=PySem.Challenge.rw_oj0050_01.row.toRowW
noncomputable def recP:List (Str × Nat):=[("digit",4),("hex_sign",6),("octal_sign",7),("backslash",8),("is_gap",9),("skip_gaps",10),("comment_behind",11),("skip_to_command",12),("read_name",13),("variable",14),("brackets",15),("braces",16),("parts_until",17),
  ("bare_stops",18),("is_expanded",19),("word",20),("_law_pieces",23),("_law_told_texts",24),("_law_closed",25),("_law_read",26),("_law_none_earlier",27),("_law_alone",28),("_law_script_right",29),("_law_closers_right",30),("_law_text_right",31),("law",32)]
noncomputable def recOf (p:Str × Nat):DefRec:=⟨p.1,paramsOf (stm p.2),bodyOf (stm p.2),scopeOf (stm p.2),posOf (stm p.2)⟩
theorem recs_vw:recsOf vw = recP.map recOf:=by kernel_rfl
theorem said_ok:PySem.Challenge.rw_oj0050_01.wellSaid = true:=by
  unfold OpenLaw.wellSaid OpenRow.wellSaid
  try unfold OpenRow.partSaid
  try unfold looksOpen
  repeat' (with_reducible refine look_both ?_ ?_)
  all_goals (try rw [PySem.W.Fast.te11788848310118352699];try rw [PySem.W.Fast.te2368527892694137696];try rw [PySem.W.Fast.te9807087744658564304];try rw [PySem.W.Fast.te12862048085361865435];try rw [PySem.W.Fast.te8377067652309620493];try rw [PySem.W.Fast.te18344453789297297638];try rw [PySem.W.Fast.te3471404346716756564];try rw [PySem.W.Fast.te14412699480532031325];try rw [PySem.W.Fast.te8326940854005059898];try rw [PySem.W.Fast.te5923862056798008813];try rw [PySem.W.Fast.te17691160309236699985];try rw [PySem.W.Fast.te13343964577679436407];try rw [PySem.W.Fast.te17119622794617984870];try rw [PySem.W.Fast.te17868728402115742887];try rw [PySem.W.Fast.te9706382859710513879];try rw [PySem.W.Fast.te2357444279172408678];try rw [PySem.W.Fast.te4857012375875476094];try rw [PySem.W.Fast.named_eq];try rw [PySem.W.Fast.te13582783067957832011];try rw [PySem.W.Fast.te5318747976498570220];try rw [PySem.W.Fast.te4274047373036748609];try rw [PySem.W.Fast.te12749700546528644094];try rw [PySem.W.Fast.te10501279942588096481];try rw [PySem.W.Fast.te8179353310426384613];try rw [PySem.W.Fast.te797321630700447069];try rw [PySem.W.Fast.te9572597257264208301];try rw [PySem.W.Fast.te9558739934217749035];try rw [PySem.W.Fast.te16286561074155671207];try rw [PySem.W.Fast.te6984425678791042302];try rw [PySem.W.Fast.te17095254045102204799];try rw [PySem.W.Fast.te12879404354523853263];try rw [PySem.W.Fast.te482687673346738481];try rw [PySem.W.Fast.te10792542408131684335];try rw [PySem.W.Fast.te7723801398212525404];try rw [PySem.W.Fast.sDec_eq])
  all_goals kernel_rfl
theorem left_ok:LeftO RR.prog vw lo (fun s=>xlAt vw [] s && recOk (RowW.records RR) s) (Hook.obs Hk) (Hook.val Hk) 2478 true:=by
  intro w
  unfold openEnds fencedOpening topFrom topStub
  rw [PySem.W.Fast.te4187177175401517315,PySem.W.Fast.te5923862056798008813,PySem.W.Fast.te10274390034422433532,PySem.W.Fast.te14364793385576792824,PySem.W.Fast.te1435165496053646825,PySem.W.Fast.te14289696077712309145,PySem.W.Fast.te14082659384304107361,PySem.W.Fast.te8920871248978507458,PySem.W.Fast.te17154629097778926822,PySem.W.Fast.te12822647523644345616,PySem.W.Fast.te6905046200447255374]
  kernel_rfl
theorem vw_names:namesOk vw (looseW vw lo) (namesW vw lo) = true:=by
  rw [PySem.W.Fast.te17448422675489707002,PySem.W.Fast.te821141287760084731]
  kernel_rfl
theorem vw_imp:importsNone vw = true:=by
  rw [PySem.W.Fast.te2458874890965802552]
  kernel_rfl
end Mine
end
section
set_option tactic.hygienic false
open PySem PySem.W PyProof.Rows PySem.Spec PySem.Calls
namespace Mine
noncomputable def IsIt (o:Obj):Prop:=(o.cls = .type "list_iterator" ∨ o.cls = .type "range_iterator" ∨ o.cls = .type "enumerate")∧∃ vs,o.data = .fields vs
structure Up (h h':Heap):Prop where
  slots:h.UpToSlots h'
  its:∀ b o,h.get? b = some o→IsIt o→h'.get? b = some o
theorem Up.refl (h:Heap):Up h h:=⟨.refl h,fun _ _ e _=>e⟩
theorem Up.trans {h₁ h₂ h₃:Heap} (x:Up h₁ h₂) (y:Up h₂ h₃):Up h₁ h₃:=⟨x.slots.trans y.slots,fun b o e i=>y.its b o (x.its b o e i) i⟩
theorem Up.of_keeps {h h':Heap} (k:∀ b o,h.get? b = some o→h'.get? b = some o):Up h h':=⟨.of_keeps k,fun b o e _=>k b o e⟩
theorem Up.but {g h h':Heap} {L:Addr} (u:Up g h) (hL:g.get? L = none) (k:∀ b o,b ≠ L→h.get? b = some o→h'.get? b = some o):Up g h' :=
  ⟨fun b o e nf=>let ⟨sl,e1⟩:=u.slots b o e nf;⟨sl,k _ _ (fun q=>by rw [q,hL] at e;cases e) e1⟩,
   fun b o e i=>k _ _ (fun q=>by rw [q,hL] at e;cases e) (u.its b o e i)⟩
noncomputable def Ext (base h h':Heap):Prop:=base.StaysIn h'∧Up h h'
theorem Ext.refl {base h:Heap} (k:base.StaysIn h):Ext base h h:=⟨k,.refl h⟩
theorem Ext.trans {base h₁ h₂ h₃:Heap} (x:Ext base h₁ h₂) (y:Ext base h₂ h₃):Ext base h₁ h₃:=⟨y.1,x.2.trans y.2⟩
theorem Ext.of_keeps {base h h':Heap} (kb:base.StaysIn h) (k:∀ b o,h.get? b = some o→h'.get? b = some o):Ext base h h' :=
  ⟨fun b o e=>k b o (kb b o e),.of_keeps k⟩
theorem Ext.of_new {base h h':Heap} (kb:base.StaysIn h) (k:Heap.ExtBut h.objs.size h h'):Ext base h h' :=
  .of_keeps kb fun b o e=>k b o (Nat.ne_of_lt (Heap.lt_size e)) e
theorem Ext.push {base h:Heap} (kb:base.StaysIn h) (o:Obj):Ext base h (h.push o) :=
  .of_keeps kb fun _ _ e=>Heap.get?_push_of_some _ e
theorem frames_up {base h h':Heap} {l:List Env} (u:Up h h') (f:h.FunFrames base l):h'.FunFrames base l :=
  f.of_keeps fun b o hb hn=>let ⟨_,e⟩:=u.slots b o hb hn;⟨_,e,rfl⟩
mutual
inductive Rd (h:Heap):Value→PyData→Prop
  | none:Rd h .none .none
  | bool (b:Bool):Rd h (.bool b) (.bool b)
  | int (i:Int) (t:Tok):Rd h (.int i t) (.int i)
  | str (x:Str) (t:Tok):Rd h (.str x t) (.str x)
  | list {a:Addr} {o:Obj} {vs:List Value} {n:Nat} {ds:List PyData}:h.get? a = some o→o.cls = .type "list"→o.data = .seq vs.toArray n→RdL h vs ds→Rd h (.ref a) (.list ds)
  | tuple {a:Addr} {o:Obj} {vs:List Value} {n:Nat} {ds:List PyData}:h.get? a = some o→o.cls = .type "tuple"→o.data = .seq vs.toArray n→RdL h vs ds→Rd h (.ref a) (.tuple ds)
inductive RdL (h:Heap):List Value→List PyData→Prop
  | nil:RdL h [] []
  | cons {v:Value} {vs:List Value} {d:PyData} {ds:List PyData}:Rd h v d→RdL h vs ds→RdL h (v :: vs) (d :: ds)
end
theorem rd_all {h:Heap} {M:Value→PyData→Prop} {ML:List Value→List PyData→Prop} (c0:M .none .none) (c1:∀ b,M (.bool b) (.bool b)) (c2:∀ i t,M (.int i t) (.int i)) (c3:∀ x t,M (.str x t) (.str x))
    (c4:∀ {a:Addr} {o:Obj} {vs:List Value} {n:Nat} {ds:List PyData},h.get? a = some o→o.cls = .type "list"→o.data = .seq vs.toArray n→RdL h vs ds→ML vs ds→M (.ref a) (.list ds))
    (c5:∀ {a:Addr} {o:Obj} {vs:List Value} {n:Nat} {ds:List PyData},h.get? a = some o→o.cls = .type "tuple"→o.data = .seq vs.toArray n→RdL h vs ds→ML vs ds→M (.ref a) (.tuple ds))
    (n0:ML [] []) (n1:∀ {v:Value} {vs:List Value} {d:PyData} {ds:List PyData},Rd h v d→RdL h vs ds→M v d→ML vs ds→ML (v :: vs) (d :: ds)):(∀ {v d},Rd h v d→M v d)∧∀ {vs ds},RdL h vs ds→ML vs ds :=
  ⟨fun r=>Rd.rec (motive_1:=fun v d _=>M v d) (motive_2:=fun vs ds _=>ML vs ds) c0 c1 c2 c3 c4 c5 n0 n1 r,fun r=>RdL.rec (motive_1:=fun v d _=>M v d) (motive_2:=fun vs ds _=>ML vs ds) c0 c1 c2 c3 c4 c5 n0 n1 r⟩
theorem rd_up {h h':Heap} (u:Up h h'):(∀ {v d},Rd h v d→Rd h' v d)∧∀ {vs ds},RdL h vs ds→RdL h' vs ds :=
  rd_all .none .bool .int .str (fun h1 h2 h3 _ i=>let ⟨_,e⟩:=u.slots _ _ h1 fun vs q=>nomatch h3.symm.trans q;.list e h2 h3 i) (fun h1 h2 h3 _ i=>let ⟨_,e⟩:=u.slots _ _ h1 fun vs q=>nomatch h3.symm.trans q;.tuple e h2 h3 i) .nil (fun _ _=>.cons)
theorem Rd.up {h h':Heap} (u:Up h h') {v:Value} {d:PyData} (r:Rd h v d):Rd h' v d:=(rd_up u).1 r
theorem RdL.up {h h':Heap} (u:Up h h') {vs:List Value} {ds:List PyData} (r:RdL h vs ds):RdL h' vs ds:=(rd_up u).2 r
theorem rd_but {h h':Heap} {l:Addr} (hl:∀ o xs n,h.get? l = some o→o.data ≠ .seq xs n) (k:∀ b o,b ≠ l→h.get? b = some o→h'.get? b = some o):(∀ {v d},Rd h v d→Rd h' v d)∧∀ {vs ds},RdL h vs ds→RdL h' vs ds :=
  rd_all .none .bool .int .str (fun h1 h2 h3 _ i=>.list (k _ _ (fun q=>hl _ _ _ (q ▸ h1) h3) h1) h2 h3 i) (fun h1 h2 h3 _ i=>.tuple (k _ _ (fun q=>hl _ _ _ (q ▸ h1) h3) h1) h2 h3 i) .nil (fun _ _=>.cons)
theorem Rd.but {h h':Heap} {l:Addr} (hl:∀ o xs n,h.get? l = some o→o.data ≠ .seq xs n) (k:∀ b o,b ≠ l→h.get? b = some o→h'.get? b = some o) {v:Value} {d:PyData} (r:Rd h v d):Rd h' v d:=(rd_but hl k).1 r
theorem RdL.but {h h':Heap} {l:Addr} (hl:∀ o xs n,h.get? l = some o→o.data ≠ .seq xs n) (k:∀ b o,b ≠ l→h.get? b = some o→h'.get? b = some o) {vs:List Value} {ds:List PyData} (r:RdL h vs ds):RdL h' vs ds:=(rd_but hl k).2 r
theorem rd_reads {h:Heap}:(∀ {v d},Rd h v d→∃ as,Reads h v d as)∧∀ {vs ds},RdL h vs ds→∃ as,ReadsAll h vs ds as :=
  rd_all ⟨_,.none⟩ (fun b=>⟨_,.bool b⟩) (fun i t=>⟨_,.int i t⟩) (fun x t=>⟨_,.str x t⟩) (fun h1 h2 h3 _ i=>i.elim fun _ r=>⟨_,reads_list_at h1 h2 h3 r⟩) (fun h1 h2 h3 _ i=>i.elim fun _ r=>⟨_,reads_tuple_at h1 h2 h3 r⟩) ⟨_,.nil⟩ (fun _ _ i j=>i.elim fun _ r=>j.elim fun _ q=>⟨_,.cons r q⟩)
theorem Rd.reads {h:Heap} {v:Value} {d:PyData} (r:Rd h v d):∃ as,Reads h v d as:=rd_reads.1 r
theorem RdL.reads {h:Heap} {vs:List Value} {ds:List PyData} (r:RdL h vs ds):∃ as,ReadsAll h vs ds as:=rd_reads.2 r
noncomputable def RdI (h:Heap) (v:Value):PyData→Prop
  | .none=>v = .none
  | .bool b=>v = .bool b
  | .int i=>∃ t,v = .int i t
  | .str x=>∃ t,v = .str x t
  | .tuple ds=>∃ a vs,v = .ref a∧IsTup h a vs.toArray∧RdL h vs ds
  | .list ds=>∃ a vs,v = .ref a∧h.IsList a vs.toArray∧RdL h vs ds
  | _=>True
noncomputable def RdLI (h:Heap) (vs:List Value):List PyData→Prop
  | []=>vs = []
  | d :: ds=>∃ v ws,vs = v :: ws∧Rd h v d∧RdL h ws ds
theorem rd_inv {h:Heap}:(∀ {v d},Rd h v d→RdI h v d)∧∀ {vs ds},RdL h vs ds→RdLI h vs ds :=
  rd_all rfl (fun _=>rfl) (fun _ t=>⟨t,rfl⟩) (fun _ t=>⟨t,rfl⟩) (fun h1 h2 h3 r _=>⟨_,_,rfl,⟨_,h1,h2,_,h3⟩,r⟩) (fun h1 h2 h3 r _=>⟨_,_,rfl,⟨_,h1,h2,_,h3⟩,r⟩) rfl (fun r q _ _=>⟨_,_,rfl,r,q⟩)
theorem Rd.ext {base h h':Heap} {v:Value} {d:PyData} (r:Rd h v d) (x:Ext base h h'):Rd h' v d:=r.up x.2
theorem RdL.ext {base h h':Heap} {vs:List Value} {ds:List PyData} (r:RdL h vs ds) (x:Ext base h h'):RdL h' vs ds:=r.up x.2
theorem Rd.int_inv {h:Heap} {v:Value} {i:Int} (r:Rd h v (.int i)):∃ t,v = .int i t:=rd_inv.1 r
theorem Rd.str_inv {h:Heap} {v:Value} {x:Str} (r:Rd h v (.str x)):∃ t,v = .str x t:=rd_inv.1 r
theorem Rd.bool_inv {h:Heap} {v:Value} {b:Bool} (r:Rd h v (.bool b)):v = .bool b:=rd_inv.1 r
theorem Rd.none_inv {h:Heap} {v:Value} (r:Rd h v .none):v = .none:=rd_inv.1 r
theorem Rd.tuple_inv {h:Heap} {v:Value} {ds:List PyData} (r:Rd h v (.tuple ds)):∃ a vs,v = .ref a∧IsTup h a vs.toArray∧RdL h vs ds:=rd_inv.1 r
theorem Rd.list_inv {h:Heap} {v:Value} {ds:List PyData} (r:Rd h v (.list ds)):∃ a vs,v = .ref a∧h.IsList a vs.toArray∧RdL h vs ds:=rd_inv.1 r
theorem RdL.nil_inv {h:Heap} {vs:List Value} (r:RdL h vs []):vs = []:=rd_inv.2 r
theorem RdL.cons_inv {h:Heap} {vs:List Value} {d:PyData} {ds:List PyData} (r:RdL h vs (d :: ds)):∃ v ws,vs = v :: ws∧Rd h v d∧RdL h ws ds:=rd_inv.2 r
theorem RdL.length {h:Heap}:∀ {ds:List PyData} {vs:List Value},RdL h vs ds→vs.length = ds.length
  | [],_,r=>by rw [r.nil_inv];rfl
  | _ :: _,_,r=>by obtain ⟨v,ws,rfl,_,b⟩:=r.cons_inv;simp [b.length]
theorem RdL.get {h:Heap}:∀ {ds:List PyData} {vs:List Value},RdL h vs ds→∀ {k:Nat} {d:PyData},ds[k]? = some d→∃ v,vs[k]? = some v∧Rd h v d
  | [],_,_,k,d,e=>by simp at e
  | _ :: _,_,r,k,d,e=>by
    obtain ⟨v,ws,rfl,a,b⟩:=r.cons_inv
    cases k with
    | zero=>simp at e;subst e;exact ⟨v,rfl,a⟩
    | succ k=>exact b.get (by simpa using e)
theorem RdL.append {h:Heap}:∀ {ds:List PyData} {vs:List Value},RdL h vs ds→∀ {ws:List Value} {es:List PyData},RdL h ws es→RdL h (vs ++ ws) (ds ++ es)
  | [],_,r,ws,es,q=>by rw [r.nil_inv];exact q
  | _ :: _,_,r,ws,es,q=>by
    obtain ⟨v,vs',rfl,a,b⟩:=r.cons_inv
    exact .cons a (b.append q)
theorem RdL.drop {h:Heap}:∀ {ds:List PyData} {vs:List Value},RdL h vs ds→∀ n,RdL h (vs.drop n) (ds.drop n)
  | [],_,r,n=>by rw [r.nil_inv];simp;exact .nil
  | _ :: _,_,r,n=>by
    obtain ⟨v,vs',rfl,a,b⟩:=r.cons_inv
    cases n with
    | zero=>exact .cons a b
    | succ n=>exact b.drop n
theorem RdL.take {h:Heap}:∀ {ds:List PyData} {vs:List Value},RdL h vs ds→∀ n,RdL h (vs.take n) (ds.take n)
  | [],_,r,n=>by rw [r.nil_inv];simp;exact .nil
  | _ :: _,_,r,n=>by
    obtain ⟨v,vs',rfl,a,b⟩:=r.cons_inv
    cases n with
    | zero=>exact .nil
    | succ n=>exact .cons a (b.take n)
theorem Rd.tuple_at {h:Heap} {a:Addr} {o:Obj} {vs:List Value} {n:Nat} {ds:List PyData} (ho:h.get? a = some o) (hc:o.cls = .type "tuple") (hd:o.data = .seq vs.toArray n) (r:RdL h vs ds):Rd h (.ref a) (.tuple ds):=.tuple ho hc hd r
theorem Rd.list_at {h:Heap} {a:Addr} {o:Obj} {vs:List Value} {n:Nat} {ds:List PyData} (ho:h.get? a = some o) (hc:o.cls = .type "list") (hd:o.data = .seq vs.toArray n) (r:RdL h vs ds):Rd h (.ref a) (.list ds):=.list ho hc hd r
theorem Rd.of_list {h:Heap} {a:Addr} {vs:List Value} {ds:List PyData} (hl:h.IsList a vs.toArray) (r:RdL h vs ds):Rd h (.ref a) (.list ds):=let ⟨_,h1,h2,_,h3⟩:=hl;.list h1 h2 h3 r
mutual
noncomputable def lf:PyData→Bool
  | .list _=>false
  | .dict _=>false
  | .tuple ds=>lfs ds
  | _=>true
noncomputable def lfs:List PyData→Bool
  | []=>true
  | d :: ds=>lf d && lfs ds
end
theorem rd_but_list {h h':Heap} {l:Addr} (hl:∀ o,h.get? l = some o→o.cls = .type "list") (k:∀ b o,b ≠ l→h.get? b = some o→h'.get? b = some o):(∀ {v d},Rd h v d→lf d = true→Rd h' v d)∧∀ {vs ds},RdL h vs ds→lfs ds = true→RdL h' vs ds :=
  rd_all (fun _=>.none) (fun b _=>.bool b) (fun i t _=>.int i t) (fun x t _=>.str x t) (fun _ _ _ _ _ e=>nomatch (show false = true from e))
    (fun h1 h2 h3 _ i e=>.tuple (k _ _ (fun q=>by have:=hl _ (q ▸ h1);rw [h2] at this;exact absurd this (by decide)) h1) h2 h3 (i e)) (fun _=>.nil) (fun _ _ i j e=>.cons (i (Bool.and_eq_true_iff.mp e).1) (j (Bool.and_eq_true_iff.mp e).2))
theorem Rd.but_list {h h':Heap} {l:Addr} (hl:∀ o,h.get? l = some o→o.cls = .type "list") (k:∀ b o,b ≠ l→h.get? b = some o→h'.get? b = some o) {v:Value} {d:PyData} (r:Rd h v d) (e:lf d = true):Rd h' v d:=(rd_but_list hl k).1 r e
theorem RdL.but_list {h h':Heap} {l:Addr} (hl:∀ o,h.get? l = some o→o.cls = .type "list") (k:∀ b o,b ≠ l→h.get? b = some o→h'.get? b = some o) {vs:List Value} {ds:List PyData} (r:RdL h vs ds) (e:lfs ds = true):RdL h' vs ds:=(rd_but_list hl k).2 r e
theorem lfs_append:∀ (a b:List PyData),lfs (a ++ b) = (lfs a && lfs b)
  | [],b=>by simp [lfs]
  | d :: a,b=>by simp [lfs,lfs_append a b,Bool.and_assoc]
end Mine
end
section
set_option tactic.hygienic false
open PySem PySem.W PyProof.Rows PySem.Spec PySem.Calls
namespace Mine
structure Cx where
  prog:Program
  w:World
  base:Heap
  mg:Str→Option Value
  mb:Str→Option Value
  exc:Addr
noncomputable abbrev Cx.M (C:Cx):Model:=model C.prog C.w
structure Glb (C:Cx):Prop where
  g:C.base.Ns mainGlobals C.mg
  b:C.base.Ns builtinsNs C.mb
  nolimit:C.base.NoLimit
  builtins:∀ x:Str,x ≠ "__name__"→C.mb x = bootBuiltins x
structure Fx where
  name:Str
  scope:Scope
  L:Addr
  a:Addr
  cd:Value
  outer:List Env
  g:Heap
  names:List Str
  A:Around
  keep:List (Addr × Obj)
noncomputable abbrev Fx.env (X:Fx):Env:=envOf X.name X.scope X.L X.a X.cd
noncomputable abbrev Fx.fs (X:Fx):List Env:=X.env :: X.outer
structure Room (A:Around) (fs:List Env) (d:Nat):Prop where
  hd:A.handled = none
  fr:A.frames = some fs
  dep:A.depth + d < recursionLimit
  un:A.units + 4 * d + 3000 < cLine
structure Store where
  vs:List (Option PyData)
  own:Option (Nat × List PyData)
noncomputable def OwnL (h:Heap) (a:Addr) (items:Array Value):Prop:=∃ o,h.get? a = some o∧o.cls = .type "list"∧o.dict = none∧∃ n,o.data = .seq items n
theorem OwnL.isList {h:Heap} {a:Addr} {items:Array Value} (l:OwnL h a items):h.IsList a items:=let ⟨o,h1,h2,_,h3⟩:=l;⟨o,h1,h2,h3⟩
theorem OwnL.up {h h':Heap} {a:Addr} {items:Array Value} (l:OwnL h a items) (u:Up h h'):OwnL h' a items:=by
  obtain ⟨o,ho,hc,hd,n,hq⟩:=l
  obtain ⟨sl,e⟩:=u.slots _ _ ho fun vs q=>by rw [hq] at q;cases q
  exact ⟨_,e,hc,hd,n,hq⟩
structure OwnAt (C:Cx) (X:Fx) (σ:Store) (m:Str→Option Value) (h:Heap) (i:Nat) (ds:List PyData):Prop where
  free:∀ (j:Nat) (d:PyData),σ.vs[j]? = some (some d)→lf d = true
  lfs:Mine.lfs ds = true
  at_:∃ x a vs,X.names[i]? = some x∧m x = some (.ref a)∧OwnL h a vs.toArray∧RdL h vs ds∧X.g.get? a = none∧C.base.get? a = none
structure FInv (C:Cx) (X:Fx) (σ:Store) (h:Heap):Prop where
  stays:C.base.StaysIn h
  up:Up X.g h
  gframes:X.g.FunFrames C.base X.outer
  kind:X.scope.kind = .function
  lnew:X.g.get? X.L = none
  gsz:X.g.objs.size ≤ X.L
  dom:h.nsMap X.L "code" = none
  kept:∀ p ∈ X.keep,IsIt p.2∧h.get? p.1 = some p.2
  loc:∃ m,Fr C.base X.L h m∧(∀ (i:Nat) (x:Str) (d:PyData),X.names[i]? = some x→σ.vs[i]? = some (some d)→∃ v,m x = some v∧Rd h v d) ∧
    ∀ (i:Nat) (ds:List PyData),σ.own = some (i,ds)→OwnAt C X σ m h i ds
theorem FInv.frames {C:Cx} {X:Fx} {σ:Store} {h:Heap} (I:FInv C X σ h):h.FunFrames C.base X.fs:=by
  obtain ⟨m,F,_⟩:=I.loc
  refine .cons (by show X.scope.kind ≠ .module;rw [I.kind];decide) rfl F.ns ?_ (frames_up I.up I.gframes)
  cases hq:C.base.get? X.L with
  | none=>rfl
  | some o=>exact absurd (Nat.lt_of_lt_of_le (Heap.lt_size hq) F.above) (Nat.lt_irrefl _)
theorem FInv.size {C:Cx} {X:Fx} {σ:Store} {h:Heap} (I:FInv C X σ h):C.base.objs.size ≤ h.objs.size:=by
  obtain ⟨m,F,_⟩:=I.loc
  exact Nat.le_trans F.above (Nat.le_of_lt F.ns.lt)
theorem FInv.kept_but {C:Cx} {X:Fx} {σ:Store} {h h':Heap} (I:FInv C X σ h) {a:Addr} (ha:∀ o vs,h.get? a = some o→o.data ≠ .fields vs) (k:∀ b o,b ≠ a→h.get? b = some o→h'.get? b = some o):∀ p ∈ X.keep,IsIt p.2∧h'.get? p.1 = some p.2:=fun p hp =>
  let ⟨i,e⟩:=I.kept p hp
  ⟨i,k _ _ (fun q=>by subst q;obtain ⟨_,vs,hd⟩:=i;exact ha _ _ e hd) e⟩
theorem FInv.ext {C:Cx} {X:Fx} {σ:Store} {h h':Heap} (I:FInv C X σ h) (x:Ext C.base h h'):FInv C X σ h' where
  stays:=x.1
  up:=I.up.trans x.2
  gframes:=I.gframes
  kind:=I.kind
  lnew:=I.lnew
  gsz:=I.gsz
  dom:=by
    obtain ⟨m,F,_⟩:=I.loc
    rw [← (F.of_stays x.1 x.2.slots).ns.eq_nsMap,F.ns.eq_nsMap]
    exact I.dom
  kept:=fun p hp=>⟨(I.kept p hp).1,x.2.its _ _ (I.kept p hp).2 (I.kept p hp).1⟩
  loc:=by
    obtain ⟨m,F,hv,ho⟩:=I.loc
    refine ⟨m,F.of_stays x.1 x.2.slots,fun i y d e1 e2=>?_,fun i ds e=>?_⟩
    · obtain ⟨v,e3,r⟩:=hv i y d e1 e2
      exact ⟨v,e3,r.ext x⟩
    · obtain ⟨f,l,y,a,vs,e1,e2,hl,hr,r⟩:=ho i ds e
      exact ⟨f,l,y,a,vs,e1,e2,hl.up x.2,hr.ext x,r⟩
noncomputable abbrev Res (α:Type):=Option (Except Str α)
noncomputable def TbAt (C:Cx) (x:Addr) (h:Heap) (vs:Array Value):Option Value→Prop
  | none=>vs[1]? = some .none
  | some f=>∃ T oT ts,vs[1]? = some (.ref T)∧C.base.get? T = none∧T ≠ x∧h.get? T = some oT∧oT.data = .fields ts∧ts[3]? = some f∧oT.cls = .type "traceback"
structure Ex (C:Cx) (x:Addr) (t:Str) (fl:Option Value) (h:Heap):Prop where
  new:C.base.get? x = none
  at_:∃ oe vs dx me,h.get? x = some oe∧oe.cls = .ref C.exc∧oe.data = .fields vs ∧
    TbAt C x h vs fl ∧
    oe.dict = some dx∧h.Ns dx me∧(∃ tk,me "code" = some (.int 1 tk))∧(∃ tk,me "value" = some (.str t tk))∧∃ v,me "errorcode" = some v∧Rd h v (.tuple [.str "NONE"])
noncomputable def Fly (C:Cx) (x:Addr) (t:Str) (h:Heap):Prop:=Ex C x t none h ∨ Ex C x t (some .none) h
noncomputable def PostV (C:Cx) (s:Shared) (r:Except Str PyData) (Q E:Value→Shared→Prop):Prop:=match r with
  | .ok d=>∀ v h' tk,Ext C.base s.heap h'→Rd h' v d→Q v { s with heap:=h',toks:=tk }
  | .error t=>∀ x h' tk,Ext C.base s.heap h'→Fly C x t h'→E (.ref x) { s with heap:=h',toks:=tk }
noncomputable def PostL (C:Cx) (s:Shared) (r:Except Str (List PyData)) (Q:List Value→Shared→Prop) (E:Value→Shared→Prop):Prop:=match r with
  | .ok ds=>∀ vs h' tk,Ext C.base s.heap h'→RdL h' vs ds→Q vs { s with heap:=h',toks:=tk }
  | .error t=>∀ x h' tk,Ext C.base s.heap h'→Fly C x t h'→E (.ref x) { s with heap:=h',toks:=tk }
noncomputable def PostB (C:Cx) (s:Shared) (r:Except Str Bool) (Q:Bool→Shared→Prop) (E:Value→Shared→Prop):Prop:=match r with
  | .ok b=>∀ h' tk,Ext C.base s.heap h'→Q b { s with heap:=h',toks:=tk }
  | .error t=>∀ x h' tk,Ext C.base s.heap h'→Fly C x t h'→E (.ref x) { s with heap:=h',toks:=tk }
noncomputable def CallOk (C:Cx) (d:Nat) (n:Str) (args:List PyData) (r:Except Str PyData):Prop :=
  ∀ (f:Addr),C.mg n = some (.ref f)→∀ (A:Around) (fs:List Env),Room A fs d→∀ (s:Shared) (vs:List Value) (Q E:Value→Shared→Prop),
    C.base.StaysIn s.heap→C.base.objs.size ≤ s.heap.objs.size→s.heap.FunFrames C.base fs→RdL s.heap vs args→PostV C s r Q E→wpAny C.M A (call (.ref f) vs) Q E s
noncomputable abbrev Oracle:=Str→List PyData→Res PyData
noncomputable def Good (C:Cx) (d:Nat) (Φ:Oracle):Prop:=∀ n args r,Φ n args = some r→CallOk C d n args r
structure Sh where
  scope:Scope
  names:List Str
  d:Nat
structure Fits (S:Sh) (X:Fx):Prop where
  sc:X.scope = S.scope
  nm:X.names = S.names
  room:Room X.A X.fs S.d
noncomputable def SE (C:Cx) (S:Sh) (e:Expr) (f:Store→Res PyData):Prop :=
  ∀ X,Fits S X→∀ σ s Q E r,f σ = some r→FInv C X σ s.heap→PostV C s r Q E→wpAny C.M X.A (eval e X.env) Q E s
noncomputable def ST (C:Cx) (S:Sh) (e:Expr) (f:Store→Res Bool):Prop :=
  ∀ X,Fits S X→∀ σ s Q E r,f σ = some r→FInv C X σ s.heap→PostB C s r Q E→wpAny C.M X.A (isTrue e X.env (eval e X.env)) Q E s
noncomputable def SA (C:Cx) (S:Sh) (es:List Expr) (f:Store→Res (List PyData)):Prop :=
  ∀ X,Fits S X→∀ pos σ s Q E r,f σ = some r→FInv C X σ s.heap→PostL C s r Q E→wpAny C.M X.A (spliced (backTo pos (starEach es X.env))) Q E s
noncomputable def bnd {α β:Type} (a:Res α) (k:α→Res β):Res β:=match a with
  | none=>none
  | some (.error t)=>some (.error t)
  | some (.ok x)=>k x
noncomputable def ret' {α:Type} (x:α):Res α:=some (.ok x)
@[simp] theorem bnd_none {α β:Type} (k:α→Res β):bnd none k = none:=rfl
@[simp] theorem bnd_error {α β:Type} (t:Str) (k:α→Res β):bnd (some (.error t)) k = some (.error t):=rfl
@[simp] theorem bnd_ok {α β:Type} (x:α) (k:α→Res β):bnd (some (.ok x)) k = k x:=rfl
@[simp] theorem bnd_ret {α β:Type} (x:α) (k:α→Res β):bnd (ret' x) k = k x:=rfl
theorem bnd_some {α β:Type} {a:Res α} {k:α→Res β} {r:Except Str β} (h:bnd a k = some r) :
    (∃ t,a = some (.error t)∧r = .error t) ∨ ∃ x,a = some (.ok x)∧k x = some r:=by
  cases a with
  | none=>cases h
  | some a =>
    cases a with
    | error t=>exact .inl ⟨t,rfl,by cases h;rfl⟩
    | ok x=>exact .inr ⟨x,rfl,h⟩
section
variable {C:Cx} {S:Sh}
theorem SE.then {e:Expr} {f:Store→Res PyData} (h:SE C S e f) {X:Fx} (hX:Fits S X) {σ:Store} {s:Shared} (I:FInv C X σ s.heap) {α:Type} {k:PyData→Res α} {r:Except Str α}
    (hr:bnd (f σ) k = some r) {Q:Value→Shared→Prop} {E:Value→Shared→Prop}
    (ok:∀ d v h' tk,f σ = some (.ok d)→k d = some r→Ext C.base s.heap h'→FInv C X σ h'→Rd h' v d→Q v { s with heap:=h',toks:=tk })
    (er:∀ t x h' tk,r = .error t→Ext C.base s.heap h'→Fly C x t h'→E (.ref x) { s with heap:=h',toks:=tk }) :
    wpAny C.M X.A (eval e X.env) Q E s:=by
  rcases bnd_some hr with ⟨t,e1,e2⟩ | ⟨d,e1,e2⟩
  · exact h X hX σ s Q E _ e1 I fun x h' tk x1 x2=>er t x h' tk e2 x1 x2
  · exact h X hX σ s Q E _ e1 I fun v h' tk x1 x2=>ok d v h' tk e1 e2 x1 (I.ext x1) x2
theorem SA.nil:SA C S [] (fun _=>ret' []):=fun X hX pos σ s Q E r hr I post=>by
  cases hr
  exact args_nil (post [] s.heap s.toks (Ext.refl I.stays) RdL.nil)
theorem SA.cons {e:Expr} {es:List Expr} {f:Store→Res PyData} {fs:Store→Res (List PyData)} (h:SE C S e f) (hs:SA C S es fs) (he:∀ env,starEach (e :: es) env = (false,eval e env) :: starEach es env:=by intro _;rfl) :
    SA C S (e :: es) (fun σ=>bnd (f σ) fun d=>bnd (fs σ) fun ds=>ret' (d :: ds)):=fun X hX pos σ s Q E r hr I post=>by
  refine args_cons ?_ (he _)
  refine h.then hX I hr (fun d v h₁ t₁ e1 k1 x1 I1 r1=>?_) (fun t x h' tk e1 x1 x2=>by subst e1;exact post x h' tk x1 x2)
  rcases bnd_some k1 with ⟨t,e2,e3⟩ | ⟨ds,e2,e3⟩
  · subst e3
    exact hs X hX pos σ _ _ _ _ e2 I1 fun x h' tk y1 y2=>post x h' tk (x1.trans y1) y2
  · cases e3
    exact hs X hX pos σ _ _ _ _ e2 I1 fun vs h' tk y1 y2=>post (v :: vs) h' tk (x1.trans y1) (.cons (r1.ext y1) y2)
end
end Mine
end
section
open PySem PySem.W PyProof.Rows PySem.Spec PySem.Calls
namespace Mine
noncomputable def getV (i:Nat) (σ:Store):Res PyData:=match σ.vs[i]? with
  | some (some d)=>some (.ok d)
  | _=>none
theorem getV_some {i:Nat} {σ:Store} {r:Except Str PyData} (h:getV i σ = some r):∃ d,σ.vs[i]? = some (some d)∧r = .ok d:=by
  unfold getV at h
  split at h
  · rename_i d e;exact ⟨d,e,by cases h;rfl⟩
  · cases h
section
variable {C:Cx} {S:Sh}
theorem SE.name {x:Str} {p:Pos} {i:Nat} (hi:S.names[i]? = some x) (hk:S.scope.kind = .function) (hl:S.scope.names.lookup x = some .local) (hd:(x == ("__debug__":Str)) = false) :
    SE C S (.Name x p) (getV i):=fun X hX σ s Q E r hr I post=>by
  obtain ⟨d,e1,rfl⟩:=getV_some hr
  obtain ⟨m,F,hv,_⟩:=I.loc
  obtain ⟨v,e2,r2⟩:=hv i x d (by rw [hX.nm];exact hi) e1
  exact ld F e2 (post v s.heap s.toks (.refl I.stays) r2) (by rw [hX.sc];exact hk) (by show X.scope.names.lookup x = _;rw [hX.sc];exact hl) hd
theorem SE.cstr {x:Str} {k:Nat} {p:Pos}:SE C S (.Constant (.str x) k p) (fun _=>ret' (.str x)):=fun X hX σ s Q E r hr I post=>by
  cases hr
  exact Constant_str (post _ s.heap _ (.refl I.stays) (.str x _))
theorem SE.cint {i:Int} {k:Nat} {p:Pos}:SE C S (.Constant (.int i) k p) (fun _=>ret' (.int i)):=fun X hX σ s Q E r hr I post=>by
  cases hr
  exact wpAny_Constant_int (post _ s.heap _ (.refl I.stays) (.int i _))
theorem SE.cbool {b:Bool} {k:Nat} {p:Pos}:SE C S (.Constant (.bool b) k p) (fun _=>ret' (.bool b)):=fun X hX σ s Q E r hr I post=>by
  cases hr
  exact fun Γ p' hΓ=>post _ s.heap s.toks (.refl I.stays) (.bool b)
theorem SE.cnone {k:Nat} {p:Pos}:SE C S (.Constant .none k p) (fun _=>ret' .none):=fun X hX σ s Q E r hr I post=>by
  cases hr
  exact fun Γ p' hΓ=>post _ s.heap s.toks (.refl I.stays) .none
noncomputable def tupD (ds:List PyData):Res PyData:=if ds.length ≤ 1000000 then some (.ok (.tuple ds)) else none
noncomputable def listD (ds:List PyData):Res PyData:=if ds.length ≤ 1000000 then some (.ok (.list ds)) else none
theorem small_fits {n:Nat} (h:n ≤ 1000000):n ≤ sizeLine:=by rw [sizeLine_eq];lia
theorem SA.then {es:List Expr} {f:Store→Res (List PyData)} (h:SA C S es f) {X:Fx} (hX:Fits S X) {pos:Pos} {σ:Store} {s:Shared} (I:FInv C X σ s.heap) {α:Type} {k:List PyData→Res α} {r:Except Str α}
    (hr:bnd (f σ) k = some r) {Q:List Value→Shared→Prop} {E:Value→Shared→Prop}
    (ok:∀ ds vs h' tk,f σ = some (.ok ds)→k ds = some r→Ext C.base s.heap h'→FInv C X σ h'→RdL h' vs ds→Q vs { s with heap:=h',toks:=tk })
    (er:∀ t x h' tk,r = .error t→Ext C.base s.heap h'→Fly C x t h'→E (.ref x) { s with heap:=h',toks:=tk }) :
    wpAny C.M X.A (spliced (backTo pos (starEach es X.env))) Q E s:=by
  rcases bnd_some hr with ⟨t,e1,e2⟩ | ⟨d,e1,e2⟩
  · exact h X hX pos σ s Q E _ e1 I fun x h' tk x1 x2=>er t x h' tk e2 x1 x2
  · exact h X hX pos σ s Q E _ e1 I fun v h' tk x1 x2=>ok d v h' tk e1 e2 x1 (I.ext x1) x2
theorem newTuple_rd {A:Around} {s:Shared} {vs:List Value} {ds:List PyData} {Q:Value→Shared→Prop} {E:Value→Shared→Prop} {d:PyData} (hs:C.base.StaysIn s.heap) (r:RdL s.heap vs ds) (e:tupD ds = some (.ok d))
    (h:∀ v h' tk,Ext C.base s.heap h'→Rd h' v d→Q v { s with heap:=h',toks:=tk }):wpAny C.M A (newTuple vs) Q E s:=by
  unfold tupD at e
  split at e
  · rename_i hn
    cases e
    have x:=Ext.push hs { cls:=.type "tuple",data:=.seq vs.toArray }
    refine wpAny_newObj_type (h _ _ s.toks x (.tuple_at (Heap.get?_push_size _ rfl) rfl rfl (r.ext x))) ?_
    show vs.toArray.size ≤ sizeLine
    rw [List.size_toArray,r.length]
    exact small_fits hn
  · cases e
theorem newList_rd {A:Around} {s:Shared} {vs:List Value} {ds:List PyData} {Q:Value→Shared→Prop} {E:Value→Shared→Prop} {d:PyData} (hs:C.base.StaysIn s.heap) (r:RdL s.heap vs ds) (e:listD ds = some (.ok d))
    (h:∀ v h' tk,Ext C.base s.heap h'→Rd h' v d→Q v { s with heap:=h',toks:=tk }):wpAny C.M A (newList vs) Q E s:=by
  unfold listD at e
  split at e
  · rename_i hn
    cases e
    have x:=Ext.push hs { cls:=.type "list",data:=.seq vs.toArray }
    refine wpAny_newObj_type (h _ _ s.toks x (.list_at (Heap.get?_push_size _ rfl) rfl rfl (r.ext x))) ?_
    show vs.toArray.size ≤ sizeLine
    rw [List.size_toArray,r.length]
    exact small_fits hn
  · cases e
theorem tupD_ok {ds:List PyData} {r:Except Str PyData} (h:tupD ds = some r):∃ d,r = .ok d:=by
  unfold tupD at h;split at h
  · cases h;exact ⟨_,rfl⟩
  · cases h
theorem listD_ok {ds:List PyData} {r:Except Str PyData} (h:listD ds = some r):∃ d,r = .ok d:=by
  unfold listD at h;split at h
  · cases h;exact ⟨_,rfl⟩
  · cases h
theorem SE.tuple {es:List Expr} {k:Nat} {p:Pos} {f:Store→Res (List PyData)} (h:SA C S es f):SE C S (.Tuple es k p) (fun σ=>bnd (f σ) tupD):=fun X hX σ s Q E r hr I post=>by
  refine Tuple_ (h.then hX I hr (fun ds vs h₁ t₁ _ k1 x1 I1 r1=>?_) (fun t x h' tk e1 x1 x2=>by subst e1;exact post x h' tk x1 x2))
  obtain ⟨d,rfl⟩:=tupD_ok k1
  exact newTuple_rd (s:={ s with heap:=h₁,toks:=t₁ }) I1.stays r1 k1 fun v h' tk x2 r2=>post v h' tk (x1.trans x2) r2
theorem SE.list {es:List Expr} {p:Pos} {f:Store→Res (List PyData)} (h:SA C S es f):SE C S (.List es p) (fun σ=>bnd (f σ) listD):=fun X hX σ s Q E r hr I post=>by
  refine List_ (h.then hX I hr (fun ds vs h₁ t₁ _ k1 x1 I1 r1=>?_) (fun t x h' tk e1 x1 x2=>by subst e1;exact post x h' tk x1 x2))
  obtain ⟨d,rfl⟩:=listD_ok k1
  exact newList_rd (s:={ s with heap:=h₁,toks:=t₁ }) I1.stays r1 k1 fun v h' tk x2 r2=>post v h' tk (x1.trans x2) r2
noncomputable def lft {α:Type} (o:Option α):Res α:=o.map .ok
theorem lft_some {α:Type} {o:Option α} {r:Except Str α} (h:lft o = some r):∃ d,o = some d∧r = .ok d:=by
  cases o with
  | none=>cases h
  | some d=>cases h;exact ⟨d,rfl,rfl⟩
@[simp] theorem lft_of {α:Type} (d:α):lft (some d) = ret' d:=rfl
@[simp] theorem lft_none {α:Type}:lft (none:Option α) = none:=rfl
noncomputable def BinOk (C:Cx) (op:Operator) (g:PyData→PyData→Option PyData):Prop :=
  ∀ (A:Around) (s:Shared) (va vb:Value) (a b d:PyData) (Q E:Value→Shared→Prop),A.handled = Option.none→C.base.StaysIn s.heap→Rd s.heap va a→Rd s.heap vb b→g a b = some d →
    (∀ v h' tk,Ext C.base s.heap h'→Rd h' v d→Q v { s with heap:=h',toks:=tk })→wpAny C.M A (binaryOp op va vb) Q E s∧wpAny C.M A (inplaceOp op va vb) Q E s
theorem SE.bin {l r:Expr} {op:Operator} {p:Pos} {f g:Store→Res PyData} {o:PyData→PyData→Option PyData} (ho:BinOk C op o) (hf:SE C S l f) (hg:SE C S r g) :
    SE C S (.BinOp l op r p) (fun σ=>bnd (f σ) fun a=>bnd (g σ) fun b=>lft (o a b)):=fun X hX σ s Q E r hr I post=>by
  refine wpAny_BinOp (hf.then hX I hr (fun a va h₁ t₁ _ k1 x1 I1 r1=>?_) (fun t x h' tk e1 x1 x2=>by subst e1;exact post x h' tk x1 x2))
  refine hg.then hX (s:={ s with heap:=h₁,toks:=t₁ }) I1 k1 (fun b vb h₂ t₂ _ k2 x2 I2 r2=>?_) (fun t x h' tk e1 x2 x3=>by subst e1;exact post x h' tk (x1.trans x2) x3)
  obtain ⟨d,e1,rfl⟩:=lft_some k2
  exact (ho X.A { s with heap:=h₂,toks:=t₂ } va vb a b d Q E hX.room.hd I2.stays (r1.ext x2) r2 e1 fun v h' tk x3 r3=>post v h' tk ((x1.trans x2).trans x3) r3).1
noncomputable def addD:PyData→PyData→Option PyData
  | .int a,.int b=>some (.int (a + b))
  | .str x,.str y=>if x.length + y.length ≤ 1000000 then some (.str (x ++ y)) else none
  | _,_=>none
noncomputable def subD:PyData→PyData→Option PyData
  | .int a,.int b=>some (.int (a - b))
  | _,_=>none
noncomputable def mulD:PyData→PyData→Option PyData
  | .int a,.int b=>if 0 ≤ a∧a ≤ 1000000∧0 ≤ b∧b ≤ 1000000 then some (.int (a * b)) else none
  | _,_=>none
noncomputable def modD:PyData→PyData→Option PyData
  | .int a,.int b=>if b = 0 then none else some (.int (a.fmod b))
  | _,_=>none
theorem str_len_zero {x:Str} (h:(x.length == 0) = true):x = Str.empty:=by
  obtain ⟨c⟩:=x
  have:c.size = 0:=by simpa [Str.length] using h
  have:c = #[]:=Array.eq_empty_of_size_eq_zero this
  subst this;rfl
theorem BinOk.sub:BinOk C .Sub subD:=fun A s va vb a b d Q E hh hs ra rb e post=>by
  unfold subD at e;split at e
  · obtain ⟨t,rfl⟩:=ra.int_inv
    obtain ⟨u,rfl⟩:=rb.int_inv
    cases e
    exact ⟨P.sub_int (post _ s.heap _ (.refl hs) (.int _ _)),P.isub_int (post _ s.heap _ (.refl hs) (.int _ _))⟩
  · cases e
theorem BinOk.add:BinOk C .Add addD:=fun A s va vb a b d Q E hh hs ra rb e post=>by
  unfold addD at e;split at e
  · obtain ⟨t,rfl⟩:=ra.int_inv
    obtain ⟨u,rfl⟩:=rb.int_inv
    cases e
    exact ⟨P.add_int (post _ s.heap _ (.refl hs) (.int _ _)),P.iadd_int (post _ s.heap _ (.refl hs) (.int _ _))⟩
  · rename_i x y
    obtain ⟨t,rfl⟩:=ra.str_inv
    obtain ⟨u,rfl⟩:=rb.str_inv
    split at e
    · rename_i hn
      cases e
      have key:(if x.length == 0 then Made.val (.str y u) else if y.length == 0 then Made.val (.str x t) else Made.str (x ++ y)).post Q s:=by
        split
        · rename_i h0
          rw [str_len_zero h0,Str.empty_append] at post
          exact post _ s.heap _ (.refl hs) (.str _ _)
        · split
          · rename_i h0
            rw [str_len_zero h0,Str.append_empty] at post
            exact post _ s.heap _ (.refl hs) (.str _ _)
          · exact ⟨by rw [Str.length_append];exact small_fits hn,post _ s.heap _ (.refl hs) (.str _ _)⟩
      exact ⟨P.add_str key,P.iadd_str key⟩
    · cases e
  · cases e
end
end Mine
end
section
set_option tactic.hygienic false
open PySem PySem.W PyProof.Rows PySem.Spec PySem.Calls
namespace Mine
section
variable {C:Cx} {S:Sh}
noncomputable def CmpOk (C:Cx) (op:CmpOp) (g:PyData→PyData→Option Bool):Prop :=
  ∀ (A:Around) (s:Shared) (va vb:Value) (a b:PyData) (c:Bool) (Q E:Value→Shared→Prop),A.units + 3000 < cLine→C.base.StaysIn s.heap→Rd s.heap va a→Rd s.heap vb b→g a b = some c →
    Q (.bool c) s→wpAny C.M A (compareOp op va vb) Q E s
theorem Room.un3 {A:Around} {fs:List Env} {d:Nat} (R:Room A fs d):A.units + 3000 < cLine:=by have:=R.un;lia
theorem SE.cmp {l r:Expr} {op:CmpOp} {p:Pos} {f g:Store→Res PyData} {o:PyData→PyData→Option Bool} (ho:CmpOk C op o) (hf:SE C S l f) (hg:SE C S r g) (hm:behindInMarks op r = false:=by rfl) :
    SE C S (.Compare l [op] [r] p) (fun σ=>bnd (f σ) fun a=>bnd (g σ) fun b=>lft ((o a b).map .bool)):=fun X hX σ s Q E r hr I post=>by
  refine wpAny_Compare1 (hf.then hX I hr (fun a va h₁ t₁ _ k1 x1 I1 r1=>?_) (fun t x h' tk e1 x1 x2=>by subst e1;exact post x h' tk x1 x2)) hm
  refine hg.then hX (s:={ s with heap:=h₁,toks:=t₁ }) I1 k1 (fun b vb h₂ t₂ _ k2 x2 I2 r2=>?_) (fun t x h' tk e1 x2 x3=>by subst e1;exact post x h' tk (x1.trans x2) x3)
  obtain ⟨d,e1,rfl⟩:=lft_some k2
  obtain ⟨c,e2,rfl⟩:=Option.map_eq_some_iff.mp e1
  exact ho X.A { s with heap:=h₂,toks:=t₂ } va vb a b c Q E hX.room.un3 I2.stays (r1.ext x2) r2 e2 (post _ h₂ t₂ (x1.trans x2) (.bool c))
theorem ST.cmp {l r:Expr} {op:CmpOp} {p:Pos} {f g:Store→Res PyData} {o:PyData→PyData→Option Bool} (ho:CmpOk C op o) (hf:SE C S l f) (hg:SE C S r g) (hm:behindInMarks op r = false:=by rfl) :
    ST C S (.Compare l [op] [r] p) (fun σ=>bnd (f σ) fun a=>bnd (g σ) fun b=>lft (o a b)):=fun X hX σ s Q E r hr I post=>by
  refine wpAny_isTrue_Compare1 (hf.then hX I hr (fun a va h₁ t₁ _ k1 x1 I1 r1=>?_) (fun t x h' tk e1 x1 x2=>by subst e1;exact post x h' tk x1 x2)) hm
  refine hg.then hX (s:={ s with heap:=h₁,toks:=t₁ }) I1 k1 (fun b vb h₂ t₂ _ k2 x2 I2 r2=>?_) (fun t x h' tk e1 x2 x3=>by subst e1;exact post x h' tk (x1.trans x2) x3)
  obtain ⟨c,e2,rfl⟩:=lft_some k2
  exact ho X.A { s with heap:=h₂,toks:=t₂ } va vb a b c _ E hX.room.un3 I2.stays (r1.ext x2) r2 e2 (wpAny_truthy_bool (post h₂ t₂ (x1.trans x2)))
theorem ST.chain2 {l r r':Expr} {op op':CmpOp} {p:Pos} {f g g':Store→Res PyData} {o o':PyData→PyData→Option Bool} (ho:CmpOk C op o) (ho':CmpOk C op' o') (hf:SE C S l f) (hg:SE C S r g) (hg':SE C S r' g')
    (hm:lastMarks [op,op'] [r,r'] = false:=by rfl) :
    ST C S (.Compare l [op,op'] [r,r'] p) (fun σ=>bnd (f σ) fun a=>bnd (g σ) fun b=>bnd (lft (o a b)) fun c=>if c then bnd (g' σ) fun b'=>lft (o' b b') else ret' false):=fun X hX σ s Q E r hr I post=>by
  refine isTrue_chain (hf.then hX I hr (fun a va h₁ t₁ _ k1 x1 I1 r1=>?_) (fun t x h' tk e1 x1 x2=>by subst e1;exact post x h' tk x1 x2)) hm
  refine test_link (hg.then hX (s:={ s with heap:=h₁,toks:=t₁ }) I1 k1 (fun b vb h₂ t₂ _ k2 x2 I2 r2=>?_) (fun t x h' tk e1 x2 x3=>by subst e1;exact post x h' tk (x1.trans x2) x3))
  rcases bnd_some k2 with ⟨t,e1,e2⟩ | ⟨c,e1,k3⟩
  · obtain ⟨_,_,e⟩:=lft_some e1;cases e
  · obtain ⟨c',e2,e⟩:=lft_some e1
    cases e
    refine ho X.A { s with heap:=h₂,toks:=t₂ } va vb a b c _ E hX.room.un3 I2.stays (r1.ext x2) r2 e2 (wpAny_truthy_bool ?_)
    cases c with
    | false=>cases k3;exact post h₂ t₂ (x1.trans x2)
    | true =>
      refine test_last (hg'.then hX (s:={ s with heap:=h₂,toks:=t₂ }) I2 k3 (fun b' vb' h₃ t₃ _ k4 x3 I3 r3=>?_) (fun t x h' tk e1 x3 x4=>by subst e1;exact post x h' tk ((x1.trans x2).trans x3) x4))
      obtain ⟨c,e2,rfl⟩:=lft_some k4
      exact ho' X.A { s with heap:=h₃,toks:=t₃ } vb vb' b b' c _ E hX.room.un3 I3.stays (r2.ext x3) r3 e2 (wpAny_truthy_bool (post h₃ t₃ ((x1.trans x2).trans x3)))
theorem ST.then {e:Expr} {f:Store→Res Bool} (h:ST C S e f) {X:Fx} (hX:Fits S X) {σ:Store} {s:Shared} (I:FInv C X σ s.heap) {α:Type} {k:Bool→Res α} {r:Except Str α}
    (hr:bnd (f σ) k = some r) {Q:Bool→Shared→Prop} {E:Value→Shared→Prop}
    (ok:∀ d h' tk,f σ = some (.ok d)→k d = some r→Ext C.base s.heap h'→FInv C X σ h'→Q d { s with heap:=h',toks:=tk })
    (er:∀ t x h' tk,r = .error t→Ext C.base s.heap h'→Fly C x t h'→E (.ref x) { s with heap:=h',toks:=tk }) :
    wpAny C.M X.A (isTrue e X.env (eval e X.env)) Q E s:=by
  rcases bnd_some hr with ⟨t,e1,e2⟩ | ⟨d,e1,e2⟩
  · exact h X hX σ s Q E _ e1 I fun x h' tk x1 x2=>er t x h' tk e2 x1 x2
  · exact h X hX σ s Q E _ e1 I fun h' tk x1=>ok d h' tk e1 e2 x1 (I.ext x1)
theorem ST.not {e:Expr} {p:Pos} {f:Store→Res Bool} (h:ST C S e f):ST C S (.UnaryOp .Not e p) (fun σ=>bnd (f σ) fun b=>ret' (!b)):=fun X hX σ s Q E r hr I post=>by
  refine isTrue_not (h.then hX I hr (fun b h' tk _ k1 x1 _=>?_) (fun t x h' tk e1 x1 x2=>by subst e1;exact post x h' tk x1 x2))
  cases k1
  exact post h' tk x1
theorem ST.and_nil {p:Pos}:ST C S (.BoolOp .And [] p) (fun _=>ret' true):=fun X hX σ s Q E r hr I post=>by
  cases hr
  exact isTrue_and_nil (post s.heap s.toks (.refl I.stays))
theorem ST.or_nil {p:Pos}:ST C S (.BoolOp .Or [] p) (fun _=>ret' false):=fun X hX σ s Q E r hr I post=>by
  cases hr
  exact isTrue_or_nil (post s.heap s.toks (.refl I.stays))
theorem ST.and {e:Expr} {es:List Expr} {p:Pos} {f g:Store→Res Bool} (h:ST C S e f) (hs:ST C S (.BoolOp .And es p) g) :
    ST C S (.BoolOp .And (e :: es) p) (fun σ=>bnd (f σ) fun b=>if b then g σ else ret' false):=fun X hX σ s Q E r hr I post=>by
  refine isTrue_and (h.then hX I hr (fun b h' tk _ k1 x1 I1=>?_) (fun t x h' tk e1 x1 x2=>by subst e1;exact post x h' tk x1 x2))
  cases b with
  | false=>cases k1;exact post h' tk x1
  | true =>
    refine hs X hX σ { s with heap:=h',toks:=tk } Q E r k1 I1 ?_
    cases r with
    | error t=>exact fun x h2 tk2 x2 x3=>post x h2 tk2 (x1.trans x2) x3
    | ok b=>exact fun h2 tk2 x2=>post h2 tk2 (x1.trans x2)
theorem ST.or {e:Expr} {es:List Expr} {p:Pos} {f g:Store→Res Bool} (h:ST C S e f) (hs:ST C S (.BoolOp .Or es p) g) :
    ST C S (.BoolOp .Or (e :: es) p) (fun σ=>bnd (f σ) fun b=>if b then ret' true else g σ):=fun X hX σ s Q E r hr I post=>by
  refine isTrue_or (h.then hX I hr (fun b h' tk _ k1 x1 I1=>?_) (fun t x h' tk e1 x1 x2=>by subst e1;exact post x h' tk x1 x2))
  cases b with
  | true=>cases k1;exact post h' tk x1
  | false =>
    refine hs X hX σ { s with heap:=h',toks:=tk } Q E r k1 I1 ?_
    cases r with
    | error t=>exact fun x h2 tk2 x2 x3=>post x h2 tk2 (x1.trans x2) x3
    | ok b=>exact fun h2 tk2 x2=>post h2 tk2 (x1.trans x2)
noncomputable def boolD:PyData→Option Bool
  | .bool b=>some b
  | _=>none
theorem boolD_some {d:PyData} {b:Bool} (h:boolD d = some b):d = .bool b:=by
  unfold boolD at h;split at h <;> cases h;rfl
theorem ST.plain {e:Expr} {f:Store→Res PyData} (h:SE C S e f) (he:∀ env whole,isTrue e env whole = (do let v ← whole;standAt e.pos;holding [v] (truthy v)):=by intro _ _;rfl) :
    ST C S e (fun σ=>bnd (f σ) fun d=>lft (boolD d)):=fun X hX σ s Q E r hr I post=>by
  refine isTrue_plain (h.then hX I hr (fun d v h₁ t₁ _ k1 x1 I1 r1=>?_) (fun t x h' tk e1 x1 x2=>by subst e1;exact post x h' tk x1 x2)) (he _ _)
  obtain ⟨b,e1,rfl⟩:=lft_some k1
  have e2:=boolD_some e1
  subst e2
  rw [r1.bool_inv]
  exact wpAny_truthy_bool (post h₁ t₁ x1)
theorem SE.and2 {a b:Expr} {p:Pos} {f g:Store→Res PyData} (hf:SE C S a f) (hg:SE C S b g) :
    SE C S (.BoolOp .And [a,b] p) (fun σ=>bnd (f σ) fun x=>bnd (lft (boolD x)) fun c=>if c then g σ else ret' (.bool false)):=fun X hX σ s Q E r hr I post=>by
  refine BoolOp_and (hf.then hX I hr (fun d v h₁ t₁ _ k1 x1 I1 r1=>?_) (fun t x h' tk e1 x1 x2=>by subst e1;exact post x h' tk x1 x2))
  rcases bnd_some k1 with ⟨t,e1,e2⟩ | ⟨c,e1,k3⟩
  · obtain ⟨_,_,e⟩:=lft_some e1;cases e
  · obtain ⟨c',e2,e⟩:=lft_some e1
    cases e
    have e3:=boolD_some e2
    subst e3
    rw [r1.bool_inv]
    refine wpAny_truthy_bool ?_
    cases c with
    | false=>cases k3;exact post _ h₁ t₁ x1 (.bool false)
    | true =>
      show wpAny _ _ (eval (.BoolOp .And [b] p) _) _ _ _
      show wpAny _ _ (eval b _) _ _ _
      refine hg X hX σ { s with heap:=h₁,toks:=t₁ } Q E r k3 I1 ?_
      cases r with
      | error t=>exact fun x h2 tk2 x2 x3=>post x h2 tk2 (x1.trans x2) x3
      | ok b=>exact fun v h2 tk2 x2=>post v h2 tk2 (x1.trans x2)
theorem SE.or2 {a b:Expr} {p:Pos} {f g:Store→Res PyData} (hf:SE C S a f) (hg:SE C S b g) :
    SE C S (.BoolOp .Or [a,b] p) (fun σ=>bnd (f σ) fun x=>bnd (lft (boolD x)) fun c=>if c then ret' (.bool true) else g σ):=fun X hX σ s Q E r hr I post=>by
  refine BoolOp_or (hf.then hX I hr (fun d v h₁ t₁ _ k1 x1 I1 r1=>?_) (fun t x h' tk e1 x1 x2=>by subst e1;exact post x h' tk x1 x2))
  rcases bnd_some k1 with ⟨t,e1,e2⟩ | ⟨c,e1,k3⟩
  · obtain ⟨_,_,e⟩:=lft_some e1;cases e
  · obtain ⟨c',e2,e⟩:=lft_some e1
    cases e
    have e3:=boolD_some e2
    subst e3
    rw [r1.bool_inv]
    refine wpAny_truthy_bool ?_
    cases c with
    | true=>cases k3;exact post _ h₁ t₁ x1 (.bool true)
    | false =>
      show wpAny _ _ (eval b _) _ _ _
      refine hg X hX σ { s with heap:=h₁,toks:=t₁ } Q E r k3 I1 ?_
      cases r with
      | error t=>exact fun x h2 tk2 x2 x3=>post x h2 tk2 (x1.trans x2) x3
      | ok b=>exact fun v h2 tk2 x2=>post v h2 tk2 (x1.trans x2)
theorem SE.ife {t a b:Expr} {p:Pos} {c:Store→Res Bool} {f g:Store→Res PyData} (hc:ST C S t c) (hf:SE C S a f) (hg:SE C S b g) :
    SE C S (.IfExp t a b p) (fun σ=>bnd (c σ) fun x=>if x then f σ else g σ):=fun X hX σ s Q E r hr I post=>by
  have key:wpAny C.M X.A (isTrue t X.env (eval t X.env)) (fun b' s₂=>wpAny C.M X.A (if b' then eval a X.env else eval b X.env) Q E s₂) E s:=by
    refine hc.then hX I hr (fun d h₁ t₁ _ k1 x1 I1=>?_) (fun t x h' tk e1 x1 x2=>by subst e1;exact post x h' tk x1 x2)
    have po:PostV C { s with heap:=h₁,toks:=t₁ } r Q E:=by
      cases r with
      | error t=>exact fun x h2 tk2 x2 x3=>post x h2 tk2 (x1.trans x2) x3
      | ok b=>exact fun v h2 tk2 x2=>post v h2 tk2 (x1.trans x2)
    cases d with
    | true=>exact hf X hX σ { s with heap:=h₁,toks:=t₁ } Q E r k1 I1 po
    | false=>exact hg X hX σ { s with heap:=h₁,toks:=t₁ } Q E r k1 I1 po
  exact wpAny_bind key
noncomputable def ordD (f:Int→Int→Bool):PyData→PyData→Option Bool
  | .int a,.int b=>some (f a b)
  | _,_=>none
theorem CmpOk.lt:CmpOk C .Lt (ordD fun a b=>decide (a < b)):=fun A s va vb a b c Q E hu hs ra rb e q=>by
  unfold ordD at e;split at e
  · obtain ⟨t,rfl⟩:=ra.int_inv;obtain ⟨u,rfl⟩:=rb.int_inv;cases e;exact P.lt_int q
  · cases e
theorem CmpOk.le:CmpOk C .LtE (ordD fun a b=>decide (a ≤ b)):=fun A s va vb a b c Q E hu hs ra rb e q=>by
  unfold ordD at e;split at e
  · obtain ⟨t,rfl⟩:=ra.int_inv;obtain ⟨u,rfl⟩:=rb.int_inv;cases e;exact P.le_int q
  · cases e
theorem CmpOk.gt:CmpOk C .Gt (ordD fun a b=>decide (b < a)):=fun A s va vb a b c Q E hu hs ra rb e q=>by
  unfold ordD at e;split at e
  · obtain ⟨t,rfl⟩:=ra.int_inv;obtain ⟨u,rfl⟩:=rb.int_inv;cases e;exact P.gt_int q
  · cases e
theorem CmpOk.ge:CmpOk C .GtE (ordD fun a b=>decide (b ≤ a)):=fun A s va vb a b c Q E hu hs ra rb e q=>by
  unfold ordD at e;split at e
  · obtain ⟨t,rfl⟩:=ra.int_inv;obtain ⟨u,rfl⟩:=rb.int_inv;cases e;exact P.ge_int q
  · cases e
noncomputable def eqD:PyData→PyData→Option Bool
  | .int a,.int b=>some (a == b)
  | .str x,.str y=>some (x.cps.toList == y.cps.toList)
  | a,b=>if a.canLay0 = true∧b.canLay0 = true∧min a.depth b.depth ≤ 2000 then some (PyData.eqv a b) else none
noncomputable def neD (a b:PyData):Option Bool:=(eqD a b).map (!·)
theorem CmpOk.eq:CmpOk C .Eq eqD:=fun A s va vb a b c Q E hu hs ra rb e q=>by
  unfold eqD at e;split at e
  · obtain ⟨t,rfl⟩:=ra.int_inv;obtain ⟨u,rfl⟩:=rb.int_inv;cases e;exact P.eq_int q
  · obtain ⟨t,rfl⟩:=ra.str_inv;obtain ⟨u,rfl⟩:=rb.str_inv;cases e;exact P.eq_str q
  · split at e
    · rename_i hc
      cases e
      obtain ⟨_,ra⟩:=ra.reads
      obtain ⟨_,rb⟩:=rb.reads
      exact SeqAt.compareEq_reads ra rb hc.1 hc.2.1 (by have:=hc.2.2;lia) q
    · cases e
theorem CmpOk.ne:CmpOk C .NotEq neD:=fun A s va vb a b c Q E hu hs ra rb e q=>by
  unfold neD at e
  obtain ⟨c',e',e2⟩:=Option.map_eq_some_iff.mp e
  subst e2
  clear e
  have e:=e'
  clear e'
  unfold eqD at e;split at e
  · obtain ⟨t,rfl⟩:=ra.int_inv;obtain ⟨u,rfl⟩:=rb.int_inv;cases e;exact P.ne_int q
  · obtain ⟨t,rfl⟩:=ra.str_inv;obtain ⟨u,rfl⟩:=rb.str_inv;cases e;exact P.ne_str q
  · split at e
    · rename_i hc
      cases e
      obtain ⟨_,ra⟩:=ra.reads
      obtain ⟨_,rb⟩:=rb.reads
      exact SeqAt.compareNe_reads ra rb hc.1 hc.2.1 (by have:=hc.2.2;lia) q
    · cases e
noncomputable def isNoneD:PyData→Bool
  | .none=>true
  | _=>false
noncomputable def isD (a b:PyData):Option Bool:=if isNoneD b = true then some (isNoneD a) else none
noncomputable def isnD (a b:PyData):Option Bool:=(isD a b).map (!·)
theorem isNoneD_iff {d:PyData} (h:isNoneD d = true):d = .none:=by cases d <;> simp_all [isNoneD]
theorem none_eq {h:Heap} {v:Value} {d:PyData} (r:Rd h v d):(v == Value.none) = isNoneD d:=by
  cases r <;> rfl
theorem CmpOk.is:CmpOk C .Is isD:=fun A s va vb a b c Q E hu hs ra rb e q=>by
  unfold isD at e;split at e
  · rename_i hb
    cases e
    have e0:=isNoneD_iff hb
    subst e0
    have e1:=rb.none_inv
    subst e1
    refine is_none ?_
    rw [none_eq ra]
    exact q
  · cases e
theorem CmpOk.isnot:CmpOk C .IsNot isnD:=fun A s va vb a b c Q E hu hs ra rb e q=>by
  unfold isnD at e
  obtain ⟨c',e',e2⟩:=Option.map_eq_some_iff.mp e
  subst e2
  clear e
  have e:=e'
  clear e'
  unfold isD at e;split at e
  · rename_i hb
    cases e
    have e0:=isNoneD_iff hb
    subst e0
    have e1:=rb.none_inv
    subst e1
    refine isNot_none ?_
    rw [none_eq ra]
    exact q
  · cases e
noncomputable def strsD:List PyData→Option (List Str)
  | []=>some []
  | .str x :: ds=>(strsD ds).map (x :: ·)
  | _ :: _=>none
theorem strsAre_of {h:Heap}:∀ {ds:List PyData} {ys:List Str} {vs:List Value},strsD ds = some ys→RdL h vs ds→StrsAre vs ys
  | [],_,_,e,r=>by cases e;rw [r.nil_inv];exact .nil
  | .str x :: ds,ys,vs,e,r=>by
    obtain ⟨v,ws,rfl,a,b⟩:=r.cons_inv
    obtain ⟨t,rfl⟩:=a.str_inv
    simp only [strsD] at e
    obtain ⟨zs,e1,rfl⟩:=Option.map_eq_some_iff.mp e
    exact .cons x t (strsAre_of e1 b)
  | .none :: _,_,_,e,_=>by cases e
  | .bool _ :: _,_,_,e,_=>by cases e
  | .int _ :: _,_,_,e,_=>by cases e
  | .list _ :: _,_,_,e,_=>by cases e
  | .tuple _ :: _,_,_,e,_=>by cases e
  | .dict _ :: _,_,_,e,_=>by cases e
noncomputable def inD:PyData→PyData→Option Bool
  | .str x,.tuple ds=>(strsD ds).map fun ys=>ys.any (· == x)
  | .str y,.str x=>some (Txt.contains x y)
  | _,_=>none
noncomputable def ninD (a b:PyData):Option Bool:=(inD a b).map (!·)
theorem CmpOk.in_:CmpOk C .In inD:=fun A s va vb a b c Q E hu hs ra rb e q=>by
  unfold inD at e;split at e
  · obtain ⟨ys,e3,e4⟩:=Option.map_eq_some_iff.mp e
    subst e4
    obtain ⟨t,rfl⟩:=ra.str_inv
    obtain ⟨a,vs,rfl,ht,hr⟩:=rb.tuple_inv
    exact in_tuple_strs ht (by simpa using strsAre_of e3 hr) q
  · obtain ⟨t,rfl⟩:=ra.str_inv;obtain ⟨u,rfl⟩:=rb.str_inv;cases e;exact P.in_str q
  · cases e
theorem CmpOk.nin:CmpOk C .NotIn ninD:=fun A s va vb a b c Q E hu hs ra rb e q=>by
  unfold ninD at e
  obtain ⟨c',e',e2⟩:=Option.map_eq_some_iff.mp e
  subst e2
  clear e
  have e:=e'
  clear e'
  unfold inD at e;split at e
  · obtain ⟨ys,e3,e4⟩:=Option.map_eq_some_iff.mp e
    subst e4
    obtain ⟨t,rfl⟩:=ra.str_inv
    obtain ⟨a,vs,rfl,ht,hr⟩:=rb.tuple_inv
    exact notin_tuple_strs ht (by simpa using strsAre_of e3 hr) q
  · obtain ⟨t,rfl⟩:=ra.str_inv;obtain ⟨u,rfl⟩:=rb.str_inv;cases e;exact P.notIn_str q
  · cases e
end
end Mine
end
section
open PySem PySem.W PyProof.Rows PySem.Spec PySem.Calls
namespace Mine
section
variable {C:Cx} {S:Sh}
noncomputable def itemD:PyData→PyData→Option PyData
  | .str x,.int i=>if -(2 ^ 63) ≤ i∧i < 2 ^ 63 then ((seqIndex? i x.length).bind (x.cps[·]?)).map fun c=>.str ⟨#[c]⟩ else none
  | .tuple ds,.int i=>if -(2 ^ 63) ≤ i∧i < 2 ^ 63 then (seqIndex? i ds.length).bind (ds[·]?) else none
  | .list ds,.int i=>if -(2 ^ 63) ≤ i∧i < 2 ^ 63 then (seqIndex? i ds.length).bind (ds[·]?) else none
  | _,_=>none
theorem seqIndex_nonneg {k:Int} {n j:Nat} (h0:0 ≤ k) (h:seqIndex? k n = some j):j = k.toNat:=by
  unfold seqIndex? at h
  simp only at h
  split at h <;> split at h <;> simp_all <;> lia
theorem item_rd {A:Around} {s:Shared} {value slice:Expr} {va vb:Value} {a b d:PyData} {Q E:Value→Shared→Prop} (hst:C.base.StaysIn s.heap) (ra:Rd s.heap va a) (rb:Rd s.heap vb b) (e:itemD a b = some d)
    (hs:∀ o i,subscripted slice false o i = operate [o,i] (getItem o i))
    (post:∀ v h' tk,Ext C.base s.heap h'→Rd h' v d→Q v { s with heap:=h',toks:=tk }):wpAny C.M A (subscriptTail value slice va vb) Q E s:=by
  unfold itemD at e;split at e
  · rename_i x i
    split at e
    · rename_i hf
      obtain ⟨t,rfl⟩:=ra.str_inv;obtain ⟨u,rfl⟩:=rb.int_inv
      obtain ⟨c,hc,rfl⟩:=Option.map_eq_some_iff.mp e
      have a1:¬ i < -(2 ^ 63:Int):=by lia
      have a2:¬ i ≥ (2 ^ 63:Int):=by lia
      refine tail_any (typeIs_str _ _ _) F.slot_str_getitem.lookup (P.getItem_str (by rw [decide_eq_false a1,decide_eq_false a2];rfl) hc (post _ s.heap _ (.refl hst) (.str _ _))) (hs _ _)
    · cases e
  · rename_i ds i
    split at e
    · rename_i hf
      obtain ⟨t,vs,rfl,ht,hr⟩:=ra.tuple_inv;obtain ⟨u,rfl⟩:=rb.int_inv
      obtain ⟨j,e1,e2⟩:=Option.bind_eq_some_iff.mp e
      obtain ⟨v,e3,r⟩:=hr.get e2
      exact tail_any ht.typeIs slot_tuple_getitem.lookup (getItem_tuple ht hf.1 hf.2 (by rw [List.size_toArray,hr.length];exact e1) (by simpa using e3) (post _ s.heap s.toks (.refl hst) r)) (hs _ _)
    · cases e
  · rename_i ds i
    split at e
    · rename_i hf
      obtain ⟨t,vs,rfl,ht,hr⟩:=ra.list_inv;obtain ⟨u,rfl⟩:=rb.int_inv
      obtain ⟨j,e1,e2⟩:=Option.bind_eq_some_iff.mp e
      obtain ⟨v,e3,r⟩:=hr.get e2
      by_cases h0:0 ≤ i
      · have hj:=seqIndex_nonneg h0 e1
        subst hj
        exact tail_any ht.typeIs slot_list_getitem.lookup (wpAny_getItem_list ht h0 hf.2 (by simpa using e3) (post _ s.heap s.toks (.refl hst) r)) (hs _ _)
      · exact tail_any ht.typeIs slot_list_getitem.lookup (kde_getNeg ht (by lia) hf.1 (by rw [hr.length];exact e1) e3 (post _ s.heap s.toks (.refl hst) r)) (hs _ _)
    · cases e
  · cases e
theorem SE.index {e i:Expr} {p:Pos} {f g:Store→Res PyData} (hf:SE C S e f) (hg:SE C S i g) (hs:∀ o k,subscripted i false o k = operate [o,k] (getItem o k):=by intro _ _;rfl) :
    SE C S (.Subscript e i p) (fun σ=>bnd (f σ) fun a=>bnd (g σ) fun b=>lft (itemD a b)):=fun X hX σ s Q E r hr I post=>by
  refine Subscript_ (hf.then hX I hr (fun a va h₁ t₁ _ k1 x1 I1 r1=>?_) (fun t x h' tk e1 x1 x2=>by subst e1;exact post x h' tk x1 x2))
  refine hg.then hX (s:={ s with heap:=h₁,toks:=t₁ }) I1 k1 (fun b vb h₂ t₂ _ k2 x2 I2 r2=>?_) (fun t x h' tk e1 x2 x3=>by subst e1;exact post x h' tk (x1.trans x2) x3)
  obtain ⟨d,e1,rfl⟩:=lft_some k2
  exact item_rd (s:={ s with heap:=h₂,toks:=t₂ }) I2.stays (r1.ext x2) r2 e1 hs fun v h' tk x3 r3=>post v h' tk ((x1.trans x2).trans x3) r3
noncomputable def SP (C:Cx) (S:Sh) (oe:Option Expr) (f:Store→Res (Option Int)):Prop :=
  ∀ X,Fits S X→∀ σ s (Q:Value→Shared→Prop) (E:Value→Shared→Prop) r,f σ = some r→FInv C X σ s.heap →
    (match r with
      | .ok p=>∀ (q:Option (Int × Tok)) h' tk,q.map (·.1) = p→Ext C.base s.heap h'→Q (partValue q) { s with heap:=h',toks:=tk }
      | .error t=>∀ x h' tk,Ext C.base s.heap h'→Fly C x t h'→E (.ref x) { s with heap:=h',toks:=tk })→wpAny C.M X.A (evalPart oe X.env) Q E s
theorem SP.no:SP C S none (fun _=>ret' none):=fun X hX σ s Q E r hr I post=>by
  cases hr
  exact wpAny_pure (post none s.heap s.toks rfl (.refl I.stays))
noncomputable def intD:PyData→Option Int
  | .int i=>some i
  | _=>none
theorem intD_some {d:PyData} {i:Int} (h:intD d = some i):d = .int i:=by
  unfold intD at h;split at h <;> cases h;rfl
theorem SP.of {e:Expr} {f:Store→Res PyData} (h:SE C S e f):SP C S (some e) (fun σ=>bnd (f σ) fun d=>lft ((intD d).map some)):=fun X hX σ s Q E r hr I post=>by
  show wpAny _ _ (eval e _) _ _ _
  refine h.then hX I hr (fun d v h₁ t₁ _ k1 x1 I1 r1=>?_) (fun t x h' tk e1 x1 x2=>by subst e1;exact post x h' tk x1 x2)
  obtain ⟨p,e1,rfl⟩:=lft_some k1
  obtain ⟨i,e2,rfl⟩:=Option.map_eq_some_iff.mp e1
  have e3:=intD_some e2
  subst e3
  obtain ⟨t,rfl⟩:=r1.int_inv
  exact post (some (i,t)) h₁ t₁ rfl x1
theorem SP.then {oe:Option Expr} {f:Store→Res (Option Int)} (h:SP C S oe f) {X:Fx} (hX:Fits S X) {σ:Store} {s:Shared} (I:FInv C X σ s.heap) {α:Type} {k:Option Int→Res α} {r:Except Str α}
    (hr:bnd (f σ) k = some r) {Q:Value→Shared→Prop} {E:Value→Shared→Prop}
    (ok:∀ p (q:Option (Int × Tok)) h' tk,q.map (·.1) = p→k p = some r→Ext C.base s.heap h'→FInv C X σ h'→Q (partValue q) { s with heap:=h',toks:=tk })
    (er:∀ t x h' tk,r = .error t→Ext C.base s.heap h'→Fly C x t h'→E (.ref x) { s with heap:=h',toks:=tk }) :
    wpAny C.M X.A (evalPart oe X.env) Q E s:=by
  rcases bnd_some hr with ⟨t,e1,e2⟩ | ⟨d,e1,e2⟩
  · exact h X hX σ s Q E _ e1 I fun x h' tk x1 x2=>er t x h' tk e2 x1 x2
  · exact h X hX σ s Q E _ e1 I fun q h' tk eq x1=>ok d q h' tk eq e2 x1 (I.ext x1)
noncomputable def cutD (a:PyData) (lo hi:Option Int):Option PyData:=match a with
  | .str x=>if x.length ≤ 1000000 then some (.str (Txt.slice x lo hi)) else none
  | _=>none
theorem sliceMade_post {x:Str} {t:Tok} {l u:Option (Int × Tok)} {s:Shared} {Q:Value→Shared→Prop} (hsz:x.length ≤ sizeLine)
    (h:∀ t' k,Q (.str (Txt.slice x (l.map (·.1)) (u.map (·.1))) t') { s with toks:=k }):(sliceMade x t l u none).post Q s :=
  post_val_or_str ⟨Nat.le_trans (Txt.slice_le x _ _) hsz,fun t' k=>h t' k⟩
theorem SE.cut {e:Expr} {lo hi:Option Expr} {p p':Pos} {f:Store→Res PyData} {fl fu:Store→Res (Option Int)} (hf:SE C S e f) (hl:SP C S lo fl) (hu:SP C S hi fu) (ht:∀ x t r,letTemporaryGo e (.str x t) r = pure ():=by intro _ _ _;rfl) :
    SE C S (.Subscript e (.Slice lo hi none p) p') (fun σ=>bnd (f σ) fun a=>bnd (fl σ) fun l=>bnd (fu σ) fun u=>lft (cutD a l u)):=fun X hX σ s Q E r hr I post=>by
  refine Subscript_ (hf.then hX I hr (fun a va h₁ t₁ _ k1 x1 I1 r1=>?_) (fun t x h' tk e1 x1 x2=>by subst e1;exact post x h' tk x1 x2))
  refine wpAny_Slice (hl.then hX (s:={ s with heap:=h₁,toks:=t₁ }) I1 k1 (fun pl ql h₂ t₂ el k2 x2 I2=>?_) (fun t x h' tk e1 x2 x3=>by subst e1;exact post x h' tk (x1.trans x2) x3))
  refine hu.then hX (s:={ s with heap:=h₂,toks:=t₂ }) I2 k2 (fun pu qu h₃ t₃ eu k3 x3 I3=>?_) (fun t x h' tk e1 x3 x4=>by subst e1;exact post x h' tk ((x1.trans x2).trans x3) x4)
  refine wpAny_pure ?_
  obtain ⟨d,e1,rfl⟩:=lft_some k3
  unfold cutD at e1
  split at e1
  · rename_i x
    split at e1
    · rename_i hn
      cases e1
      obtain ⟨t,rfl⟩:=r1.str_inv
      have x4:=Ext.push I3.stays { cls:=.type "slice",data:=.fields #[partValue ql,partValue qu,.none] }
      refine tail_any (ops:=[_,_]) (typeIs_str _ _ _) F.slot_str_getitem.lookup (wpAny_getItem_str_slice (l:=ql) (u:=qu) (st:=none) ⟨_,Heap.get?_push_size _ rfl,rfl,rfl⟩ rfl (sliceMade_post (small_fits hn) fun t' k=>?_)) rfl
      rw [el,eu]
      exact post _ _ _ (((x1.trans x2).trans x3).trans x4) (.str _ _)
    · cases e1
  · cases e1
theorem name_glob {X:Fx} {s:Shared} {x:Str} {p:Pos} {v:Value} {Q E:Value→Shared→Prop} (G:Glb C) (hst:C.base.StaysIn s.heap) (hv:C.mg x = some v) (hk:X.scope.kind = .function) (hl:X.scope.names.lookup x = some .globalImplicit) (hd:(x == ("__debug__":Str)) = false)
    (h:Q v s):wpAny C.M X.A (eval (.Name x p) X.env) Q E s :=
  Name_function_global hk hl (loadGlobal_global (env:=X.env) (G.g.keeps hst) hv h) hd
theorem name_blt {X:Fx} {s:Shared} {x:Str} {p:Pos} {v:Value} {Q E:Value→Shared→Prop} (G:Glb C) (hst:C.base.StaysIn s.heap) (hm:C.mg x = none) (hv:bootBuiltins x = some v) (hn:x ≠ "__name__") (hk:X.scope.kind = .function) (hl:X.scope.names.lookup x = some .globalImplicit) (hd:(x == ("__debug__":Str)) = false)
    (h:Q v s):wpAny C.M X.A (eval (.Name x p) X.env) Q E s :=
  Name_function_global hk hl (loadGlobal_builtin (env:=X.env) (G.g.keeps hst) hm (G.b.keeps hst) ((G.builtins x hn).trans hv) h) hd
theorem SE.call {Φ:Oracle} (G:Glb C) (hΦ:Good C S.d Φ) {n:Str} {f:Addr} {o:Obj} {fd:FuncData} {p p':Pos} {e:Expr} {es:List Expr} {fa:Store→Res (List PyData)}
    (hn:C.mg n = some (.ref f)) (ho:C.base.get? f = some o) (hd:o.data = .func fd) (hk:S.scope.kind = .function) (hl:S.scope.names.lookup n = some .globalImplicit) (hdb:(n == ("__debug__":Str)) = false)
    (ha:SA C S (e :: es) fa) (he:∀ env,starEach (e :: es) env = (false,eval e env) :: starEach es env:=by intro _;rfl)
    (hc:∀ env,eval (.Call (.Name n p) (e :: es) [] p') env = (do callWith p' (← eval (.Name n p) env) [] (backTo p' (starEach (e :: es) env)) (backToKw p' (keywordEach [] env))):=by intro _;rfl) :
    SE C S (.Call (.Name n p) (e :: es) [] p') (fun σ=>bnd (fa σ) fun ds=>Φ n ds):=fun X hX σ s Q E r hr I post=>by
  refine Call_ ?_ (hc _)
  refine name_glob G I.stays hn (by rw [hX.sc];exact hk) (by rw [hX.sc];exact hl) hdb ?_
  refine callWith_def hd (ha.then hX I hr (fun ds vs h₁ t₁ _ k1 x1 I1 r1=>?_) (fun t x h' tk e1 x1 x2=>by subst e1;exact post x h' tk x1 x2)) (he _)
  refine ⟨I1.stays _ _ ho,?_⟩
  refine hΦ n ds r k1 f hn X.A X.fs hX.room { s with heap:=h₁,toks:=t₁ } vs Q E I1.stays I1.size I1.frames r1 ?_
  cases r with
  | error t=>exact fun x h2 tk2 x2 x3=>post x h2 tk2 (x1.trans x2) x3
  | ok b=>exact fun v h2 tk2 x2=>post v h2 tk2 (x1.trans x2)
noncomputable def Blt1 (C:Cx) (id:String) (g:PyData→Option PyData):Prop :=
  ∀ (A:Around) (s:Shared) (va:Value) (a d:PyData) (Q E:Value→Shared→Prop),A.handled = none→C.base.StaysIn s.heap→Rd s.heap va a→g a = some d →
    (∀ v h' tk,Ext C.base s.heap h'→Rd h' v d→Q v { s with heap:=h',toks:=tk })→wpAny C.M A (call (.builtin id) [va]) Q E s
theorem SE.blt1 (G:Glb C) {n:Str} {id:String} {g:PyData→Option PyData} {p p':Pos} {e:Expr} {f:Store→Res PyData} (hb:Blt1 C id g)
    (hm:C.mg n = none) (hv:bootBuiltins n = some (.builtin id)) (hn:n ≠ "__name__") (hk:S.scope.kind = .function) (hl:S.scope.names.lookup n = some .globalImplicit) (hdb:(n == ("__debug__":Str)) = false)
    (hf:SE C S e f) (he:∀ env,starEach [e] env = [(false,eval e env)]:=by intro _;rfl)
    (hc:∀ env,eval (.Call (.Name n p) [e] [] p') env = (do callWith p' (← eval (.Name n p) env) [] (backTo p' (starEach [e] env)) (backToKw p' (keywordEach [] env))):=by intro _;rfl) :
    SE C S (.Call (.Name n p) [e] [] p') (fun σ=>bnd (f σ) fun a=>lft (g a)):=fun X hX σ s Q E r hr I post=>by
  refine Call_ ?_ (hc _)
  refine name_blt G I.stays hm hv hn (by rw [hX.sc];exact hk) (by rw [hX.sc];exact hl) hdb ?_
  refine PyProof.Rows.callWith_builtin1 (args_cons (hf.then hX I hr (fun a va h₁ t₁ _ k1 x1 I1 r1=>?_) (fun t x h' tk e1 x1 x2=>by subst e1;exact post x h' tk x1 x2)) (he _)) (he _)
  refine args_nil ?_
  obtain ⟨d,e1,rfl⟩:=lft_some k1
  exact hb X.A { s with heap:=h₁,toks:=t₁ } va a d Q E hX.room.hd I1.stays r1 e1 fun v h' tk x2 r2=>post v h' tk (x1.trans x2) r2
noncomputable def lenD:PyData→Option PyData
  | .str x=>if x.length ≤ 1000000 then some (.int x.length) else none
  | .list ds=>if ds.length ≤ 1000000 then some (.int ds.length) else none
  | .tuple ds=>if ds.length ≤ 1000000 then some (.int ds.length) else none
  | _=>none
theorem Blt1.len:Blt1 C "len" lenD:=fun A s va a d Q E hh hst ra e post=>by
  unfold lenD at e;split at e
  · split at e
    · rename_i hn
      obtain ⟨t,rfl⟩:=ra.str_inv;cases e
      exact P.len_str (by lia) (post _ s.heap _ (.refl hst) (.int _ _))
    · cases e
  · split at e
    · rename_i hn
      obtain ⟨a,vs,rfl,hl,hr⟩:=ra.list_inv;cases e
      have e1:vs.toArray.size = _:=(List.size_toArray).trans hr.length
      exact len_list hl (by rw [e1];lia) (by rw [e1];exact post _ s.heap _ (.refl hst) (.int _ _))
    · cases e
  · split at e
    · rename_i hn
      obtain ⟨a,vs,rfl,hl,hr⟩:=ra.tuple_inv;cases e
      have e1:vs.toArray.size = _:=(List.size_toArray).trans hr.length
      exact len_tuple hl (by rw [e1];lia) (by rw [e1];exact post _ s.heap _ (.refl hst) (.int _ _))
    · cases e
  · cases e
noncomputable def ordF:PyData→Option PyData
  | .str x=>if x.length = 1 then some (.int (x.cps.getD 0 0:Nat)) else none
  | _=>none
theorem Blt1.ord:Blt1 C "ord" ordF:=fun A s va a d Q E hh hst ra e post=>by
  unfold ordF at e;split at e
  · split at e
    · rename_i hn
      obtain ⟨t,rfl⟩:=ra.str_inv;cases e
      exact ord_of_one hn (post _ s.heap _ (.refl hst) (.int _ _))
    · cases e
  · cases e
noncomputable def chrF:PyData→Option PyData
  | .int i=>if 0 ≤ i∧i ≤ 1114111 then some (.str ⟨#[i.toNat]⟩) else none
  | _=>none
theorem Blt1.chr:Blt1 C "chr" chrF:=fun A s va a d Q E hh hst ra e post=>by
  unfold chrF at e;split at e
  · split at e
    · rename_i hn
      obtain ⟨t,rfl⟩:=ra.int_inv;cases e
      exact chr_of_range hn.1 hn.2 (post _ s.heap _ (.refl hst) (.str _ _))
    · cases e
  · cases e
noncomputable def tupleF:PyData→Option PyData
  | .list ds=>if ds.length ≤ 1000000 then some (.tuple ds) else none
  | _=>none
theorem call_tuple_rd {A:Around} {s:Shared} {va:Value} {a d:PyData} {Q E:Value→Shared→Prop} (hst:C.base.StaysIn s.heap) (ra:Rd s.heap va a) (e:tupleF a = some d)
    (post:∀ v h' tk,Ext C.base s.heap h'→Rd h' v d→Q v { s with heap:=h',toks:=tk }):wpAny C.M A (call (.type "tuple") [va]) Q E s:=by
  unfold tupleF at e;split at e
  · split at e
    · rename_i hn
      obtain ⟨l,vs,rfl,hl,hr⟩:=ra.list_inv;cases e
      have e1:vs.toArray.size = _:=(List.size_toArray).trans hr.length
      refine call_tuple_list hl (fun h' hk=>?_) (by rw [e1];exact small_fits hn)
      have x1:=Ext.of_keeps hst hk
      have x2:=Ext.push x1.1 { cls:=.type "tuple",data:=.seq vs.toArray }
      exact post _ _ s.toks (x1.trans x2) (.tuple_at (Heap.get?_push_size _ rfl) rfl rfl (hr.ext (x1.trans x2)))
    · cases e
  · cases e
end
end Mine
end
section
open PySem PySem.W PyProof.Rows PySem.Spec PySem.Calls
namespace Mine
inductive Flw where
  | nxt
  | brk
  | ret (d:PyData)
  | exc (t:Str)
noncomputable abbrev Out:=Store × Flw
noncomputable def PostS (C:Cx) (X:Fx) (s:Shared) (o:Out) (Q:Flow→Shared→Prop) (E:Value→Shared→Prop):Prop:=match o with
  | (σ,.nxt)=>∀ h' tk,FInv C X σ h'→Q .next { s with heap:=h',toks:=tk }
  | (σ,.brk)=>∀ h' tk,FInv C X σ h'→Q .brk { s with heap:=h',toks:=tk }
  | (_,.ret d)=>∀ v h' tk,C.base.StaysIn h'→Up X.g h'→Rd h' v d→Q (.ret v) { s with heap:=h',toks:=tk }
  | (σ,.exc t)=>∀ x h' tk,FInv C X σ h'→Fly C x t h'→E (.ref x) { s with heap:=h',toks:=tk }
noncomputable def SX (C:Cx) (S:Sh) (st:Stmt) (f:Store→Option Out):Prop :=
  ∀ X,Fits S X→∀ σ s Q E o,f σ = some o→FInv C X σ s.heap→PassesOwn C.M X.A X.env E→PostS C X s o Q E→wpAny C.M X.A (exec st X.env) Q E s
noncomputable def SS (C:Cx) (S:Sh) (st:List Stmt) (f:Store→Option Out):Prop :=
  ∀ X,Fits S X→∀ σ s Q E o,f σ = some o→FInv C X σ s.heap→PassesOwn C.M X.A X.env E→PostS C X s o Q E→wpAny C.M X.A (execs st X.env) Q E s
theorem PostS.at {C:Cx} {X:Fx} {s:Shared} {o:Out} {Q:Flow→Shared→Prop} {E:Value→Shared→Prop} (p:PostS C X s o Q E) (h:Heap) (tk:Nat):PostS C X { s with heap:=h,toks:=tk } o Q E:=by
  obtain ⟨σ,fl⟩:=o
  cases fl <;> exact p
noncomputable def sbind (o:Option Out) (g:Store→Option Out):Option Out:=match o with
  | none=>none
  | some (σ,.nxt)=>g σ
  | some (σ,.brk)=>some (σ,.brk)
  | some (σ,.ret d)=>some (σ,.ret d)
  | some (σ,.exc t)=>some (σ,.exc t)
@[simp] theorem sbind_none (g:Store→Option Out):sbind none g = none:=rfl
@[simp] theorem sbind_nxt (σ:Store) (g:Store→Option Out):sbind (some (σ,.nxt)) g = g σ:=rfl
@[simp] theorem sbind_brk (σ:Store) (g:Store→Option Out):sbind (some (σ,.brk)) g = some (σ,.brk):=rfl
@[simp] theorem sbind_ret (σ:Store) (d:PyData) (g:Store→Option Out):sbind (some (σ,.ret d)) g = some (σ,.ret d):=rfl
@[simp] theorem sbind_exc (σ:Store) (t:Str) (g:Store→Option Out):sbind (some (σ,.exc t)) g = some (σ,.exc t):=rfl
noncomputable def ebind {α:Type} (a:Res α) (σ:Store) (k:α→Option Out):Option Out:=match a with
  | none=>none
  | some (.error t)=>some (σ,.exc t)
  | some (.ok x)=>k x
@[simp] theorem ebind_none {α:Type} (σ:Store) (k:α→Option Out):ebind none σ k = none:=rfl
@[simp] theorem ebind_error {α:Type} (t:Str) (σ:Store) (k:α→Option Out):ebind (some (.error t)) σ k = some (σ,.exc t):=rfl
@[simp] theorem ebind_ok {α:Type} (x:α) (σ:Store) (k:α→Option Out):ebind (some (.ok x)) σ k = k x:=rfl
@[simp] theorem ebind_ret {α:Type} (x:α) (σ:Store) (k:α→Option Out):ebind (ret' x) σ k = k x:=rfl
theorem ebind_some {α:Type} {a:Res α} {σ:Store} {k:α→Option Out} {o:Out} (h:ebind a σ k = some o) :
    (∃ t,a = some (.error t)∧o = (σ,.exc t)) ∨ ∃ x,a = some (.ok x)∧k x = some o:=by
  cases a with
  | none=>cases h
  | some a =>
    cases a with
    | error t=>exact .inl ⟨t,rfl,by cases h;rfl⟩
    | ok x=>exact .inr ⟨x,rfl,h⟩
section
variable {C:Cx} {S:Sh}
theorem SE.thenS {e:Expr} {f:Store→Res PyData} (h:SE C S e f) {X:Fx} (hX:Fits S X) {σ:Store} {s:Shared} (I:FInv C X σ s.heap) {k:PyData→Option Out} {o:Out}
    (ho:ebind (f σ) σ k = some o) {Q:Value→Shared→Prop} {Q':Flow→Shared→Prop} {E:Value→Shared→Prop} (post:PostS C X s o Q' E)
    (ok:∀ d v h' tk,f σ = some (.ok d)→k d = some o→Ext C.base s.heap h'→FInv C X σ h'→Rd h' v d→PostS C X { s with heap:=h',toks:=tk } o Q' E→Q v { s with heap:=h',toks:=tk }) :
    wpAny C.M X.A (eval e X.env) Q E s:=by
  rcases ebind_some ho with ⟨t,e1,e2⟩ | ⟨d,e1,e2⟩
  · subst e2
    exact h X hX σ s Q E _ e1 I fun x h' tk x1 x2=>post x h' tk (I.ext x1) x2
  · exact h X hX σ s Q E _ e1 I fun v h' tk x1 x2=>ok d v h' tk e1 e2 x1 (I.ext x1) x2 (post.at h' tk)
theorem ST.thenS {e:Expr} {f:Store→Res Bool} (h:ST C S e f) {X:Fx} (hX:Fits S X) {σ:Store} {s:Shared} (I:FInv C X σ s.heap) {k:Bool→Option Out} {o:Out}
    (ho:ebind (f σ) σ k = some o) {Q:Bool→Shared→Prop} {Q':Flow→Shared→Prop} {E:Value→Shared→Prop} (post:PostS C X s o Q' E)
    (ok:∀ d h' tk,f σ = some (.ok d)→k d = some o→Ext C.base s.heap h'→FInv C X σ h'→PostS C X { s with heap:=h',toks:=tk } o Q' E→Q d { s with heap:=h',toks:=tk }) :
    wpAny C.M X.A (isTrue e X.env (eval e X.env)) Q E s:=by
  rcases ebind_some ho with ⟨t,e1,e2⟩ | ⟨d,e1,e2⟩
  · subst e2
    exact h X hX σ s Q E _ e1 I fun x h' tk x1 x2=>post x h' tk (I.ext x1) x2
  · exact h X hX σ s Q E _ e1 I fun h' tk x1=>ok d h' tk e1 e2 x1 (I.ext x1) (post.at h' tk)
theorem SS.nil:SS C S [] (fun σ=>some (σ,.nxt)):=fun X hX σ s Q E o ho I hE post=>by
  cases ho
  exact wpAny_execs_nil (post s.heap s.toks I)
theorem SS.cons {st:Stmt} {rest:List Stmt} {f g:Store→Option Out} (h:SX C S st f) (hs:SS C S rest g):SS C S (st :: rest) (fun σ=>sbind (f σ) g):=fun X hX σ s Q E o ho I hE post=>by
  refine wpAny_execs_cons ?_
  dsimp only at ho
  cases e:f σ with
  | none=>rw [e] at ho;cases ho
  | some r =>
    rw [e] at ho
    obtain ⟨σ',fl⟩:=r
    refine h X hX σ s _ E _ e I hE ?_
    cases fl with
    | nxt=>exact fun h' tk I'=>hs X hX σ' { s with heap:=h',toks:=tk } Q E o ho I' hE (post.at h' tk)
    | brk=>cases ho;exact post
    | ret d=>cases ho;exact post
    | exc t=>cases ho;exact post
noncomputable def setV (i:Nat) (d:PyData) (σ:Store):Option Store:=match σ.own with
  | none=>some { σ with vs:=σ.vs.set i (some d) }
  | some (j,_)=>if j = i ∨ lf d = false then none else some { σ with vs:=σ.vs.set i (some d) }
structure SlotAt (S:Sh) (i:Nat) (x:Str):Prop where
  nc:x ≠ "code"
  at_:S.names[i]? = some x
  loc:S.scope.names.lookup x = some .local
  nodup:S.names.Nodup
theorem idx_unique {l:List Str} (h:l.Nodup) {i j:Nat} {x:Str} (hi:l[i]? = some x) (hj:l[j]? = some x):i = j:=by
  obtain ⟨li,_⟩:=List.getElem?_eq_some_iff.mp hi
  exact (List.getElem?_inj li h).mp (hi.trans hj.symm)
theorem store_rd {X:Fx} (hX:Fits S X) {σ σ':Store} {s:Shared} {i:Nat} {x:Str} {v:Value} {d:PyData} {Q:Unit→Shared→Prop} {E:Value→Shared→Prop} (I:FInv C X σ s.heap) (hi:SlotAt S i x)
    (hs:setV i d σ = some σ') (r:Rd s.heap v d) (h:∀ h' tk,FInv C X σ' h'→(∀ u e,Rd s.heap u e→Rd h' u e)→Q () { s with heap:=h',toks:=tk }):wpAny C.M X.A (storeName X.env x v) Q E s:=by
  obtain ⟨m,F,hv,ho⟩:=I.loc
  have hk:X.scope.kind = .function:=I.kind
  have hl:X.env.kindOf x = some .local:=by show X.scope.names.lookup x = _;rw [hX.sc];exact hi.loc
  have hp:(X.env.scope.kind == .class || (X.env.scope.kind == .module && X.env.locals != X.env.globals)) = false:=by
    show (X.scope.kind == .class || (X.scope.kind == .module && _)) = false
    rw [hk];rfl
  refine wpAny_storeName_local hl F.ns (fun h' hn hsb=>h h' _ ?_ fun u e q=>q.but (fun o xs n e q=>by
    obtain ⟨oL,es,ep,hL,hLd,_⟩:=F.ns
    have e':s.heap.get? X.L = some o:=e
    rw [hL] at e';cases e';rw [hLd] at q;cases q) fun b o hb e=>(hsb.2 b hb).trans e) hp
  have F':=F.set hn hsb
  obtain ⟨oL,es,ep,hL,hLd,_⟩:=F.ns
  have kb:∀ b o,b ≠ X.L→s.heap.get? b = some o→h'.get? b = some o:=fun b o hb e=>(hsb.2 b hb).trans e
  have nl:∀ o xs n,s.heap.get? X.L = some o→o.data ≠ .seq xs n:=fun o xs n e q=>by
    rw [hL] at e;cases e;rw [hLd] at q;cases q
  have nf:∀ o vs,s.heap.get? X.L = some o→o.data ≠ .fields vs:=fun o vs e q=>by
    rw [hL] at e;cases e;rw [hLd] at q;cases q
  have vsE:σ'.vs = σ.vs.set i (some d)∧σ'.own = σ.own∧∀ j ds,σ.own = some (j,ds)→j ≠ i∧lf d = true:=by
    unfold setV at hs
    split at hs
    · rename_i e
      cases hs
      exact ⟨rfl,rfl,fun j ds q=>by rw [e] at q;cases q⟩
    · rename_i j ds e
      split at hs
      · cases hs
      · rename_i hn
        cases hs
        refine ⟨rfl,rfl,fun j' ds' q=>?_⟩
        rw [e] at q
        cases q
        exact ⟨fun z=>hn (.inl z),by cases hq:lf d with | true=>rfl | false=>exact absurd (.inr hq) hn⟩
  have ni:X.names[i]? = some x:=by rw [hX.nm];exact hi.at_
  have nd:X.names.Nodup:=by rw [hX.nm];exact hi.nodup
  have old:∀ (j:Nat) (d':PyData),σ'.vs[j]? = some (some d')→(j = i∧d' = d) ∨ (j ≠ i∧σ.vs[j]? = some (some d')):=fun j d' e=>by
    rw [vsE.1,List.getElem?_set] at e
    by_cases hj:i = j
    · subst hj
      simp only [if_true] at e
      split at e
      · cases e;exact .inl ⟨rfl,rfl⟩
      · cases e
    · rw [if_neg hj] at e
      exact .inr ⟨fun q=>hj q.symm,e⟩
  exact
    { stays:=F'.keep
      up:=I.up.but I.lnew kb
      kept:=I.kept_but nf kb
      gframes:=I.gframes
      kind:=I.kind
      lnew:=I.lnew
      gsz:=I.gsz
      dom:=by
        rw [← F'.ns.eq_nsMap]
        show (if "code" = x then some v else m "code") = none
        rw [if_neg (fun q=>hi.nc q.symm),F.ns.eq_nsMap]
        exact I.dom
      loc:=by
        refine ⟨_,F',fun j y d' e1 e2=>?_,fun j ds e=>?_⟩
        · rcases old j d' e2 with ⟨rfl,rfl⟩ | ⟨hj,e3⟩
          · rw [ni] at e1;cases e1
            exact ⟨v,if_pos rfl,r.but nl kb⟩
          · obtain ⟨v',e4,r'⟩:=hv j y d' e1 e3
            refine ⟨v',?_,r'.but nl kb⟩
            show (if y = x then some v else m y) = some v'
            have hne:y ≠ x:=fun q=>by subst q;exact hj (idx_unique nd e1 ni)
            rw [if_neg hne]
            exact e4
        · rw [vsE.2.1] at e
          obtain ⟨hji,hlf⟩:=vsE.2.2 j ds e
          obtain ⟨fr,lds,y,a,ws,e1,e2,hl',hr',e3,e4⟩:=ho j ds e
          refine ⟨fun j' d' e5=>?_,lds,y,a,ws,e1,?_,?_,hr'.but nl kb,e3,e4⟩
          · rcases old j' d' e5 with ⟨_,rfl⟩ | ⟨_,e6⟩
            · exact hlf
            · exact fr j' d' e6
          · show (if y = x then some v else m y) = _
            have hne:y ≠ x:=fun q=>by subst q;exact hji (idx_unique nd e1 ni)
            rw [if_neg hne]
            exact e2
          · obtain ⟨o,h1,h2,hdn,n,h3⟩:=hl'
            exact ⟨o,kb _ _ (fun q=>nl o _ _ (q ▸ h1) h3) h1,h2,hdn,n,h3⟩ }
noncomputable def obind {α β:Type} (a:Option α) (k:α→Option β):Option β:=match a with
  | none=>none
  | some x=>k x
@[simp] theorem obind_none {α β:Type} (k:α→Option β):obind none k = none:=rfl
@[simp] theorem obind_some' {α β:Type} (x:α) (k:α→Option β):obind (some x) k = k x:=rfl
theorem obind_some {α β:Type} {a:Option α} {k:α→Option β} {r:β} (h:obind a k = some r):∃ x,a = some x∧k x = some r:=by
  cases a with
  | none=>cases h
  | some x=>exact ⟨x,rfl,h⟩
theorem SX.assign {x:Str} {p p':Pos} {e:Expr} {i:Nat} {f:Store→Res PyData} (hf:SE C S e f) (hi:SlotAt S i x) (hw:∀ env,swapsWith e (some (.Name x p)) p'.line env = pure false:=by intro _;rfl) :
    SX C S (.Assign [.Name x p] e p') (fun σ=>ebind (f σ) σ fun d=>obind (setV i d σ) fun σ'=>some (σ',.nxt)):=fun X hX σ s Q E o ho I hE post=>by
  refine wpAny_Assign_Name (hf.thenS hX I ho post fun d v h' tk _ k1 x1 I1 r1 po=>?_) (hw _)
  obtain ⟨σ',e1,e2⟩:=obind_some k1
  cases e2
  exact store_rd (s:={ s with heap:=h',toks:=tk }) hX I1 hi e1 r1 fun h2 tk2 I2 _=>po h2 tk2 I2
theorem SX.aug {x:Str} {p p':Pos} {op:Operator} {e:Expr} {i:Nat} {f:Store→Res PyData} {g:PyData→PyData→Option PyData} (hg:BinOk C op g) (hf:SE C S e f) (hi:SlotAt S i x) (hk:S.scope.kind = .function) :
    SX C S (.AugAssign (.Name x p) op e p') (fun σ=>ebind (getV i σ) σ fun a=>ebind (f σ) σ fun b=>obind (g a b) fun d=>obind (setV i d σ) fun σ'=>some (σ',.nxt)):=fun X hX σ s Q E o ho I hE post=>by
  rcases ebind_some ho with ⟨t,e1,_⟩ | ⟨a,e1,k1⟩
  · obtain ⟨_,_,e⟩:=getV_some e1;cases e
  · obtain ⟨a',e2,e3⟩:=getV_some e1
    cases e3
    obtain ⟨m,F,hv,_⟩:=id I.loc
    obtain ⟨va,e4,ra⟩:=hv i x a (by rw [hX.nm];exact hi.at_) e2
    refine wpAny_AugAssign_Name (ldn F e4 ?_ (by rw [hX.sc];exact hk) (by show X.scope.names.lookup x = _;rw [hX.sc];exact hi.loc))
    refine hf.thenS hX I k1 post fun b vb h' tk _ k2 x1 I1 r1 po=>?_
    obtain ⟨d,e5,k3⟩:=obind_some k2
    obtain ⟨σ',e6,e7⟩:=obind_some k3
    cases e7
    refine (hg X.A { s with heap:=h',toks:=tk } va vb a b d _ E hX.room.hd I1.stays (ra.ext x1) r1 e5 fun v h2 tk2 x2 r2=>?_).2
    exact store_rd (s:={ s with heap:=h2,toks:=tk2 }) hX (I1.ext x2) hi e6 r2 fun h3 tk3 I3 _=>po h3 tk3 I3
theorem SX.ite {t:Expr} {a b:List Stmt} {p:Pos} {c:Store→Res Bool} {f g:Store→Option Out} (hc:ST C S t c) (hf:SS C S a f) (hg:SS C S b g) :
    SX C S (.If t a b p) (fun σ=>ebind (c σ) σ fun x=>if x then f σ else g σ):=fun X hX σ s Q E o ho I hE post=>by
  refine wpAny_If (hc.thenS hX I ho post fun d h' tk _ k1 x1 I1 po=>?_)
  cases d with
  | true=>exact hf X hX σ { s with heap:=h',toks:=tk } Q E o k1 I1 hE po
  | false=>exact hg X hX σ { s with heap:=h',toks:=tk } Q E o k1 I1 hE po
theorem SX.brk {p:Pos}:SX C S (.Break p) (fun σ=>some (σ,.brk)):=fun X hX σ s Q E o ho I hE post=>by
  cases ho
  exact wpAny_Break (post s.heap s.toks I)
noncomputable def frz (σ:Store):Store:=match σ.own with
  | none=>σ
  | some (i,ds)=>{ vs:=σ.vs.set i (some (.list ds)),own:=none }
theorem FInv.frz {X:Fx} {σ:Store} {h:Heap} (hn:X.names.Nodup) (I:FInv C X σ h):FInv C X (frz σ) h:=by
  unfold Mine.frz
  split
  · exact I
  · rename_i i ds e
    refine { stays:=I.stays,up:=I.up,gframes:=I.gframes,kind:=I.kind,lnew:=I.lnew,gsz:=I.gsz,dom:=I.dom,kept:=I.kept,loc:=?_ }
    obtain ⟨m,F,hv,ho⟩:=I.loc
    obtain ⟨fr,lds,y,a,ws,e1,e2,hl',hr',_⟩:=ho i ds e
    refine ⟨m,F,fun j x d q1 q2=>?_,fun j ds' q=>by cases q⟩
    dsimp only at q2
    rw [List.getElem?_set] at q2
    by_cases hj:i = j
    · subst hj
      simp only [if_true] at q2
      split at q2
      · cases q2
        rw [e1] at q1;cases q1
        exact ⟨_,e2,.of_list hl'.isList hr'⟩
      · cases q2
    · rw [if_neg hj] at q2
      exact hv j x d q1 q2
theorem SX.ret {e:Expr} {p:Pos} {f:Store→Res PyData} (hf:SE C S e f) (hn:S.names.Nodup):SX C S (.Return (some e) p) (fun σ=>ebind (f (frz σ)) (frz σ) fun d=>some (σ,.ret d)):=fun X hX σ s Q E o ho I hE post=>by
  refine wpAny_Return_some ?_
  have I':=I.frz (by rw [hX.nm];exact hn)
  refine hf.thenS hX I' ho post fun d v h' tk _ k1 x1 I1 r1 po=>?_
  cases k1
  exact po v h' tk I1.stays I1.up r1
theorem SX.retNone {p:Pos}:SX C S (.Return none p) (fun σ=>some (σ,.ret .none)):=fun X hX σ s Q E o ho I hE post=>by
  cases ho
  exact wpAny_Return_none (post .none s.heap s.toks I.stays I.up .none)
noncomputable def loopN (c:Store→Res Bool) (f:Store→Option Out):Nat→Store→Option Out
  | 0,_=>none
  | n + 1,σ=>ebind (c σ) σ fun b=>if b then (match f σ with
      | none=>none
      | some (σ',.nxt)=>loopN c f n σ'
      | some (σ',.brk)=>some (σ',.nxt)
      | some (σ',.ret d)=>some (σ',.ret d)
      | some (σ',.exc t)=>some (σ',.exc t)) else some (σ,.nxt)
theorem SX.while_ {t:Expr} {b:List Stmt} {p:Pos} {c:Store→Res Bool} {f:Store→Option Out} (N:Nat) (hc:ST C S t c) (hf:SS C S b f) :
    SX C S (.While t b [] p) (loopN c f N):=fun X hX σ s Q E o ho I hE post=>by
  refine wpAny_While (codeAny_whileLoop (fun n s'=>∃ σ' h tk,s' = { s with heap:=h,toks:=tk }∧FInv C X σ' h∧loopN c f n σ' = some o) ?_ N ⟨σ,s.heap,s.toks,rfl,I,ho⟩)
  rintro n s' ⟨σ',h,tk,rfl,I',ho'⟩
  cases n with
  | zero=>cases ho'
  | succ n =>
    unfold loopN at ho'
    refine wpAny_passesOwn hE (hc.thenS (s:={ s with heap:=h,toks:=tk }) hX I' ho' (post.at h tk) fun d h₁ t₁ _ k1 x1 I1 po=>?_)
    cases d with
    | false =>
      cases k1
      exact wpAny_execs_nil (po h₁ t₁ I1)
    | true =>
      simp only [if_true] at k1 ⊢
      refine wpAny_passesOwn hE ?_
      cases e:f σ' with
      | none=>rw [e] at k1;cases k1
      | some r =>
        rw [e] at k1
        obtain ⟨σ₂,fl⟩:=r
        refine hf X hX σ' { s with heap:=h₁,toks:=t₁ } _ E _ e I1 hE ?_
        cases fl with
        | nxt=>exact fun h₂ t₂ I₂=>⟨n,Nat.lt_succ_self _,σ₂,h₂,t₂,rfl,I₂,k1⟩
        | brk=>cases k1;exact po
        | ret d=>cases k1;exact po
        | exc t=>cases k1;exact po
end
end Mine
end
section
open PySem PySem.W PyProof.Rows PySem.Spec PySem.Calls
namespace Mine
section
variable {C:Cx} {S:Sh}
inductive TNames (S:Sh):List Expr→List Nat→Prop
  | nil:TNames S [] []
  | cons {x:Str} {p:Pos} {i:Nat} {es:List Expr} {is:List Nat}:SlotAt S i x→TNames S es is→TNames S (.Name x p :: es) (i :: is)
noncomputable def setVs:List Nat→List PyData→Store→Option Store
  | [],[],σ=>some σ
  | i :: is,d :: ds,σ=>obind (setV i d σ) (setVs is ds)
  | _,_,_=>none
theorem assignEach_names {es:List Expr} {is:List Nat} (h:TNames S es is) (env:Env):(assignEach es env).length = es.length∧(assignEach es env).findIdx? (·.1) = none:=by
  induction h with
  | nil=>exact ⟨rfl,rfl⟩
  | cons hi _ ih =>
    rename_i x p i es is _
    have e:assignEach (.Name x p :: es) env = (false,assign (.Name x p) env) :: assignEach es env:=rfl
    rw [e]
    refine ⟨by simp [ih.1],?_⟩
    rw [List.findIdx?_cons,ih.2];rfl
theorem setVs_len:∀ {is:List Nat} {ds:List PyData} {σ σ':Store},setVs is ds σ = some σ'→is.length = ds.length
  | [],[],_,_,_=>rfl
  | _ :: _,_ :: _,_,_,h=>by
    obtain ⟨σ₁,_,e2⟩:=obind_some (show obind _ _ = _ from h)
    simp [setVs_len e2]
  | [],_ :: _,_,_,h=>by cases h
  | _ :: _,[],_,_,h=>by cases h
theorem TNames.len {es:List Expr} {is:List Nat} (h:TNames S es is):es.length = is.length:=by
  induction h with
  | nil=>rfl
  | cons _ _ ih=>simp [ih]
noncomputable def tupOf:PyData→Option (List PyData)
  | .tuple ds=>some ds
  | _=>none
theorem tupOf_some {d:PyData} {ds:List PyData} (h:tupOf d = some ds):d = .tuple ds:=by
  unfold tupOf at h;split at h <;> cases h;rfl
theorem rdL_of {h h':Heap} (k:∀ u e,Rd h u e→Rd h' u e):∀ {ds:List PyData} {vs:List Value},RdL h vs ds→RdL h' vs ds
  | [],_,r=>by rw [r.nil_inv];exact .nil
  | _ :: _,_,r=>by
    obtain ⟨v,ws,rfl,a,b⟩:=r.cons_inv
    exact .cons (k _ _ a) (rdL_of k b)
theorem rdL_reverse {h:Heap}:∀ {ds:List PyData} {vs:List Value},RdL h vs ds→RdL h vs.reverse ds.reverse
  | [],_,r=>by rw [r.nil_inv];exact .nil
  | _ :: _,_,r=>by
    obtain ⟨v,ws,rfl,a,b⟩:=r.cons_inv
    rw [List.reverse_cons,List.reverse_cons]
    exact (rdL_reverse b).append (.cons a .nil)
theorem assign_names {X:Fx} (hX:Fits S X) {es:List Expr} {is:List Nat} (h:TNames S es is):∀ {σ σ':Store} {s:Shared} {vs:List Value} {ds:List PyData} {Q:Unit→Shared→Prop} {E:Value→Shared→Prop},FInv C X σ s.heap →
    setVs is ds σ = some σ'→RdL s.heap vs ds→(∀ h' tk,FInv C X σ' h'→(∀ u e,Rd s.heap u e→Rd h' u e)→Q () { s with heap:=h',toks:=tk })→wpAny C.M X.A (assignInOrder ((assignEach es X.env).map (·.2)) vs) Q E s:=by
  induction h with
  | nil =>
    intro σ σ' s vs ds Q E I hs r post
    cases ds with
    | nil=>cases hs;exact assignInOrder_nil (post s.heap s.toks I fun _ _ r=>r)
    | cons=>cases hs
  | cons hi _ ih =>
    rename_i x p i es is _
    intro σ σ' s vs ds Q E I hs r post
    have e:assignEach (.Name x p :: es) X.env = (false,assign (.Name x p) X.env) :: assignEach es X.env:=rfl
    cases ds with
    | nil=>cases hs
    | cons d ds =>
      obtain ⟨v,ws,rfl,rv,rs⟩:=r.cons_inv
      obtain ⟨σ₁,e1,e2⟩:=obind_some (show obind _ _ = _ from hs)
      rw [e,List.map_cons]
      refine assignInOrder_cons (assign_Name ?_)
      exact store_rd hX I hi e1 rv fun h1 t1 I1 k1=>ih (s:={ s with heap:=h1,toks:=t1 }) I1 e2 (rdL_of k1 rs) fun h2 t2 I2 k2=>post h2 t2 I2 fun u e r=>k2 u e (k1 u e r)
theorem SX.unpack {es:List Expr} {is:List Nat} {k:Nat} {p p':Pos} {e:Expr} {f:Store→Res PyData} (hf:SE C S e f) (hn:TNames S es is)
    (hs:∀ env,swapsWithSole [.Tuple es k p] e p'.line env = pure false:=by intro _;rfl) (hw:∀ env,swappedStores [.Tuple es k p] e env = pure none:=by intro _;rfl) :
    SX C S (.Assign [.Tuple es k p] e p') (fun σ=>ebind (f σ) σ fun d=>obind (tupOf d) fun ds=>obind (setVs is ds σ) fun σ'=>some (σ',.nxt)):=fun X hX σ s Q E o ho I hE post=>by
  refine Assign_Tuple (hf.thenS hX I ho post fun d v h' tk _ k1 x1 I1 r1 po=>?_) (hs _) (hw _)
  obtain ⟨ds,e1,k2⟩:=obind_some k1
  obtain ⟨σ',e2,e3⟩:=obind_some k2
  cases e3
  have e4:=tupOf_some e1
  subst e4
  obtain ⟨a,vs,rfl,ht,hr⟩:=r1.tuple_inv
  have hlen:(assignEach es X.env).length = vs.toArray.size:=by
    rw [(assignEach_names hn X.env).1,hn.len,setVs_len e2,List.size_toArray,hr.length]
  refine assign_Tuple_tuple (s:={ s with heap:=h',toks:=tk }) hX.room.hd ht hlen (assignEach_names hn X.env).2 fun h2 x2=>?_
  have x3:=Ext.of_new I1.stays x2
  exact assign_names (s:={ s with heap:=h2,toks:=tk }) hX hn (I1.ext x3) e2 (by simpa using hr.ext x3) fun h3 t3 I3 _=>po h3 t3 I3
theorem bind_names {X:Fx} (hX:Fits S X):∀ {ns:List (Str × Nat)},(∀ q ∈ ns,SlotAt S q.2 q.1)→∀ {σ σ':Store} {s:Shared} {vs:List Value} {ds:List PyData} {Q:Unit→Shared→Prop} {E:Value→Shared→Prop},FInv C X σ s.heap →
    setVs (ns.map (·.2)) ds σ = some σ'→RdL s.heap vs ds→(∀ h' tk,FInv C X σ' h'→Q () { s with heap:=h',toks:=tk })→wpAny C.M X.A (assignInOrder ((ns.map (·.1)).map fun n=>bindName X.env n) vs) Q E s
  | [],_,σ,σ',s,vs,ds,Q,E,I,hs,r,post=>by
    cases ds with
    | nil=>cases hs;exact assignInOrder_nil (post s.heap s.toks I)
    | cons=>cases hs
  | q :: ns,hn,σ,σ',s,vs,ds,Q,E,I,hs,r,post=>by
    cases ds with
    | nil=>cases hs
    | cons d ds =>
      obtain ⟨v,ws,rfl,rv,rs⟩:=r.cons_inv
      obtain ⟨σ₁,e1,e2⟩:=obind_some (show obind _ _ = _ from hs)
      refine assignInOrder_cons (bindName_ ?_)
      exact store_rd hX I (hn q (.head _)) e1 rv fun h1 t1 I1 k1=>bind_names hX (fun q' h'=>hn q' (.tail _ h')) (s:={ s with heap:=h1,toks:=t1 }) I1 e2 (rdL_of k1 rs) post
theorem SX.swap {es:List Expr} {ns:List (Str × Nat)} {k:Nat} {p p':Pos} {e:Expr} {f:Store→Res PyData} (hf:SE C S e f) (hn:∀ q ∈ ns,SlotAt S q.2 q.1)
    (hs:∀ env,swapsWithSole [.Tuple es k p] e p'.line env = pure false:=by intro _;rfl) (hw:∀ X,Fits S X→swappedStores [.Tuple es k p] e X.env = pure (some (ns.map (·.1)))) :
    SX C S (.Assign [.Tuple es k p] e p') (fun σ=>ebind (f σ) σ fun d=>obind (tupOf d) fun ds=>obind (setVs (ns.map (·.2)).reverse ds.reverse σ) fun σ'=>some (σ',.nxt)):=fun X hX σ s Q E o ho I hE post=>by
  refine Assign_Tuple_swapped (names:=ns.map (·.1)) (hf.thenS hX I ho post fun d v h' tk _ k1 x1 I1 r1 po=>?_) (hs _) (hw _ hX)
  obtain ⟨ds,e1,k2⟩:=obind_some k1
  obtain ⟨σ',e2,e3⟩:=obind_some k2
  cases e3
  have e4:=tupOf_some e1
  subst e4
  obtain ⟨a,vs,rfl,ht,hr⟩:=r1.tuple_inv
  have hl:=setVs_len e2
  simp only [List.length_reverse,List.length_map] at hl
  have hlen:(ns.map (·.1)).length = vs.toArray.size:=by rw [List.length_map,List.size_toArray,hr.length,hl]
  rw [hlen]
  refine unpackItems_tuple (s:={ s with heap:=h',toks:=tk }) hX.room.hd ht fun h2 x2=>?_
  have x3:=Ext.of_new I1.stays x2
  have key:=bind_names (C:=C) (s:={ s with heap:=h2,toks:=tk }) hX (ns:=ns.reverse) (fun q h=>hn q (List.mem_reverse.mp h)) (I1.ext x3) (by rw [List.map_reverse];exact e2) (rdL_reverse (hr.ext x3))
    (Q:=fun _ s'=>Q .next s') (E:=E) fun h3 t3 I3=>po h3 t3 I3
  rw [List.map_reverse] at key
  simpa using key
end
end Mine
end
section
set_option tactic.hygienic false
open PySem PySem.W PyProof.Rows PySem.Spec PySem.Calls
namespace Mine
section
variable {C:Cx} {A:Around}
theorem Ex.rest {x:Addr} {t:Str} {fl fl':Option Value} {h h':Heap} (e:Ex C x t fl h) (u:Up h h')
    (k:∀ oe vs,h.get? x = some oe→oe.data = .fields vs→∃ oe' vs',h'.get? x = some oe'∧oe'.cls = oe.cls∧oe'.dict = oe.dict∧oe'.data = .fields vs'∧TbAt C x h' vs' fl'):Ex C x t fl' h':=by
  obtain ⟨oe,vs,dx,me,h1,h2,h3,_,h5,h6,h7,h8,v,h9,h10⟩:=e.at_
  obtain ⟨oe',vs',k1,k2,k3,k4,k5⟩:=k oe vs h1 h3
  exact ⟨e.new,oe',vs',dx,me,k1,k2.trans h2,k4,k5,k3.trans h5,u.slots.ns h6,h7,h8,v,h9,h10.up u⟩
theorem Ex.obj {x:Addr} {t:Str} {fl:Option Value} {h:Heap} (e:Ex C x t fl h):∃ oe vs,h.get? x = some oe∧oe.data = .fields vs∧TbAt C x h vs fl:=by
  obtain ⟨oe,vs,dx,me,h1,h2,h3,h4,_⟩:=e.at_
  exact ⟨oe,vs,h1,h3,h4⟩
theorem dict_mapFields (o:Obj) (f:Array Value→Array Value):(o.mapFields f).dict = o.dict:=by
  obtain ⟨c,d,dt,sl⟩:=o;cases dt <;> rfl
theorem up_of_fields {h:Heap} {a:Addr} {o:Obj} {vs:Array Value} {f:Obj→Obj} (ho:h.get? a = some o) (hd:o.data = .fields vs) (hc:¬ IsIt o):Up h (h.update a f) :=
  ⟨fun b o' e nf=>⟨o'.slots,(Heap.get?_update_other _ _ (fun q:a = b=>by subst q;rw [ho] at e;cases e;exact nf _ hd)).trans e⟩,
   fun b o' e i=>(Heap.get?_update_other _ _ (fun q:a = b=>by subst q;rw [ho] at e;cases e;exact hc i)).trans e⟩
theorem notIt_tb {o:Obj} (h:o.cls = .type "traceback"):¬ IsIt o:=fun i=>by rcases i.1 with q | q | q <;> (rw [h] at q;exact absurd q (by decide))
theorem notIt_ref {o:Obj} {a:Addr} (h:o.cls = .ref a):¬ IsIt o:=fun i=>by rcases i.1 with q | q | q <;> (rw [h] at q;cases q)
theorem stays_of_fields {base h:Heap} {a:Addr} {f:Obj→Obj} (k:base.StaysIn h) (hn:base.get? a = none):base.StaysIn (h.update a f):=fun b o e =>
  (Heap.get?_update_other _ _ (fun q:a = b=>by subst q;rw [hn] at e;cases e)).trans (k b o e)
theorem flight_ex {x:Addr} {t:Str} {f:Value} {s:Shared} {fr:Option Addr} {Q:Unit→Shared→Prop} {E:Value→Shared→Prop} (e:Ex C x t (some f) s.heap) (k:C.base.StaysIn s.heap)
    (h:∀ h',Ext C.base s.heap h'→Ex C x t (some (fr.elim .none fun g=>rawInt g)) h'→Q () { s with heap:=h' }):wpAny C.M A (setFlight (.ref x) fr) Q E s:=by
  obtain ⟨oe,vs,h1,h2,T,oT,ts,h3,h4,h5,h6,h7,h8,h9⟩:=e.obj
  unfold setFlight
  refine wpAny_bind (wpAny_field h1 h2 h3 ?_)
  rw [if_pos (show (Value.ref T != Value.none) = true from by simp)]
  have hsz:=(Array.getElem?_eq_some_iff.mp h8).1
  refine wpAny_setField h6 h7 hsz ?_
  have u:Up s.heap (s.heap.update T (Obj.mapFields (·.setIfInBounds 3 (fr.elim .none fun g=>rawInt g)))):=up_of_fields h6 h7 (notIt_tb h9)
  refine h _ ⟨stays_of_fields k h4,u⟩ (e.rest u fun oe' vs' q1 q2=>?_)
  rw [h1] at q1;cases q1
  rw [h2] at q2;cases q2
  refine ⟨oe,vs,(Heap.get?_update_other _ _ h5).trans h1,rfl,rfl,h2,T,_,_,h3,h4,h5,Heap.get?_update_self _ h6 (Obj.isFreed_of_fields (Obj.data_mapFields h7 _)),Obj.data_mapFields h7 _,?_,(Obj.cls_mapFields _ _).trans h9⟩
  simp [hsz]
theorem entry_ex {x:Addr} {t:Str} {fl:Option Value} {s:Shared} {env:Env} {outer:List Env} {L:Addr} {head:Value} {b:Bool} {Q:Unit→Shared→Prop} {E:Value→Shared→Prop}
    (hfr:A.frames = some (env :: outer)) (hl:s.heap.FunFrames C.base (env :: outer)) (hf:env.frame = some L) (e:Ex C x t fl s.heap) (k:C.base.StaysIn s.heap)
    (h:∀ h',Ext C.base s.heap h'→Ex C x t (some (rawInt L)) h'→Q () { s with heap:=h' }) :
    wpAny C.M A (do let a ← frameOf env;let pl ← entryPlaceOf L b;let z ← EntryCells.newEntry head a .none (rawInt L) .none pl;setField (.ref x) 1 z) Q E s:=by
  obtain ⟨oe,vs,h1,h2,h3⟩:=e.obj
  have hsz:1 < vs.size:=by
    cases fl with
    | none=>exact (Array.getElem?_eq_some_iff.mp h3).1
    | some f=>obtain ⟨T,oT,ts,h3,_⟩:=h3;exact (Array.getElem?_eq_some_iff.mp h3).1
  have hci:¬ IsIt oe:=by
    obtain ⟨oe',_,_,_,q1,q2,_⟩:=e.at_
    rw [h1] at q1;cases q1;exact notIt_ref q2
  have hx:x ∉ (env :: outer).filterMap (·.frame):=fun hm=>by
    obtain ⟨_,o,ho,hnf⟩:=hl.mem hm
    rw [h1] at ho;cases ho;exact hnf _ h2
  refine wpAny_bind (wpAny_frameOf_fun hfr hl hf fun h₁ hs₁=>?_)
  refine wpAny_bind (wpAny_entryPlaceOf fun pl hpl=>?_)
  unfold EntryCells.newEntry newFields
  refine wpAny_bind (wpAny_newObj_type ?_ (hpl.sizeOk5 _ _ _ _ _))
  have u₁:Up s.heap h₁:=⟨fun b o ho _=>hs₁.2.2 b o ho,fun b o ho i=>(hs₁.2.1 b fun hm=>by obtain ⟨_,o',ho',hnf⟩:=hl.mem hm;rw [ho] at ho';cases ho';obtain ⟨_,vs',hd⟩:=i;exact hnf _ hd).trans ho⟩
  have k₁:C.base.StaysIn h₁:=fun b o ho=>(hs₁.2.1 b fun hm=>by rw [(hl.mem hm).1] at ho;cases ho).trans (k b o ho)
  have e₁:h₁.get? x = some oe:=(hs₁.2.1 x hx).trans h1
  have e₂:=Heap.get?_push_of_some (h:=h₁) { cls:=.type "traceback",dict:=none,data:=.fields ([head,.ref L,.none,rawInt L,.none] ++ (if pl.isEmpty then List.replicate 6 Value.none else pl)).toArray } e₁
  have k₂:=(Ext.push k₁ { cls:=.type "traceback",dict:=none,data:=.fields ([head,.ref L,.none,rawInt L,.none] ++ (if pl.isEmpty then List.replicate 6 Value.none else pl)).toArray })
  have hT:h₁.objs.size ≠ x:=Nat.ne_of_gt (Heap.lt_size e₁)
  refine wpAny_setField e₂ h2 hsz (h _ ?_ ?_)
  · exact ⟨stays_of_fields k₂.1 e.new,(u₁.trans k₂.2).trans (up_of_fields e₂ h2 hci)⟩
  · refine e.rest ((u₁.trans k₂.2).trans (up_of_fields e₂ h2 hci)) fun oe' vs' q1 q2=>?_
    rw [h1] at q1;cases q1
    rw [h2] at q2;cases q2
    refine ⟨_,_,Heap.get?_update_self _ e₂ (Obj.isFreed_of_fields (Obj.data_mapFields h2 _)),Obj.cls_mapFields _ _,dict_mapFields _ _,Obj.data_mapFields h2 _,h₁.objs.size,_,_,?_,k₁.fresh,hT,
      (Heap.get?_update_other _ _ (Ne.symm hT)).trans (Heap.get?_push_size _ rfl),rfl,?_,rfl⟩
    · simp [hsz]
    · first | (simp;done) | (rcases hpl with rfl | ⟨_,_,_,_,_,_,_,rfl⟩ <;> simp)
theorem note_ex {x:Addr} {t:Str} {s:Shared} {env:Env} {outer:List Env} {L:Addr} {Q:Unit→Shared→Prop} {E:Value→Shared→Prop}
    (hfr:A.frames = some (env :: outer)) (hl:s.heap.FunFrames C.base (env :: outer)) (hf:env.frame = some L) (e:Fly C x t s.heap) (k:C.base.StaysIn s.heap)
    (h:∀ h',Ext C.base s.heap h'→Ex C x t (some (rawInt L)) h'→Q () { s with heap:=h' }):wpAny C.M A (noteFrame (.ref x) env) Q E s:=by
  unfold noteFrame
  simp only [hf]
  rcases e with e | e
  · obtain ⟨oe,vs,h1,h2,h3⟩:=e.obj
    refine wpAny_bind (wpAny_field h1 h2 h3 ?_)
    rw [if_neg (by decide)]
    exact entry_ex hfr hl hf e k h
  · obtain ⟨oe,vs,h1,h2,T,oT,ts,h3,h4,h5,h6,h7,h8,h9⟩:=id e.obj
    refine wpAny_bind (wpAny_field h1 h2 h3 ?_)
    rw [if_pos (show (Value.ref T != Value.none) = true from by simp)]
    refine wpAny_bind (wpAny_field h6 h7 h8 ?_)
    rw [if_neg (show ¬ ((Value.none == rawInt L) = true) from by simp [rawInt])]
    have hsz:=(Array.getElem?_eq_some_iff.mp h8).1
    refine wpAny_bind (wpAny_setField h6 h7 hsz ?_)
    have u:Up s.heap (s.heap.update T (Obj.mapFields (·.setIfInBounds 3 Value.none))):=up_of_fields h6 h7 (notIt_tb h9)
    have k':C.base.StaysIn (s.heap.update T (Obj.mapFields (·.setIfInBounds 3 Value.none))):=stays_of_fields k h4
    have e':Ex C x t (some .none) (s.heap.update T (Obj.mapFields (·.setIfInBounds 3 Value.none))):=e.rest u fun oe' vs' q1 q2=>by
      rw [h1] at q1;cases q1
      rw [h2] at q2;cases q2
      exact ⟨oe,vs,(Heap.get?_update_other _ _ h5).trans h1,rfl,rfl,h2,T,_,_,h3,h4,h5,Heap.get?_update_self _ h6 (Obj.isFreed_of_fields (Obj.data_mapFields h7 _)),Obj.data_mapFields h7 _,by simp [hsz],(Obj.cls_mapFields _ _).trans h9⟩
    exact entry_ex (s:={ s with heap:=s.heap.update T (Obj.mapFields (·.setIfInBounds 3 Value.none)) }) hfr (frames_up u hl) hf e' k' fun h' x1 x2=>h h' ⟨x1.1,u.trans x1.2⟩ x2
theorem leave_fly {x:Addr} {t:Str} {s:Shared} {env:Env} {outer:List Env} {L:Addr} {Q:Unit→Shared→Prop} {E:Value→Shared→Prop}
    (hfr:A.frames = some (env :: outer)) (hl:s.heap.FunFrames C.base (env :: outer)) (hf:env.frame = some L) (e:Fly C x t s.heap) (k:C.base.StaysIn s.heap)
    (h:∀ h',Ext C.base s.heap h'→Fly C x t h'→Q () { s with heap:=h' }):wpAny C.M A (leaving env (.ref x)) Q E s:=by
  unfold leaving
  refine wpAny_bind (note_ex hfr hl hf e k fun h₁ x1 e1=>?_)
  exact flight_ex (s:={ s with heap:=h₁ }) (fr:=none) e1 x1.1 fun h₂ x2 e2=>h h₂ (x1.trans x2) (.inr e2)
end
end Mine
end
section
set_option tactic.hygienic false
open PySem PySem.W PyProof.Rows PySem.Spec PySem.Calls
namespace Mine
section
variable {C:Cx}
noncomputable def outR:Out→Except Str PyData
  | (_,.nxt)=>.ok .none
  | (_,.brk)=>.ok .none
  | (_,.ret d)=>.ok d
  | (_,.exc t)=>.error t
noncomputable def store0 (ds:List PyData) (n:Nat):Store:={ vs:=ds.map some ++ List.replicate (n - ds.length) none,own:=none }
structure FnAt (C:Cx) (n:Str) (f0:Addr) (params:Arguments) (body:List Stmt) (scope:Scope) (dV cdv:Value):Prop where
  name:C.mg n = some (.ref f0)
  at_:∃ fo kV doc pm an ct,C.base.get? f0 = some fo∧fo.data = .func (fnOf n n params body scope dV kV doc pm an cdv ct)
  code:C.base.CodeRec cdv n
theorem lookup_rev_of {l:List (Str × Value)}:(l.map (·.1)).Nodup→∀ {i:Nat} {x:Str} {v:Value},l[i]? = some (x,v)→l.reverse.lookup x = some v:=by
  induction l with
  | nil=>intro _ i x v h;simp at h
  | cons q l ih =>
    intro hn i x v h
    obtain ⟨y,u⟩:=q
    rw [List.map_cons,List.nodup_cons] at hn
    rw [List.reverse_cons,List.lookup_append]
    cases i with
    | zero =>
      simp only [List.getElem?_cons_zero,Option.some.injEq,Prod.mk.injEq] at h
      obtain ⟨rfl,rfl⟩:=h
      have:l.reverse.lookup y = none:=by
        rw [List.lookup_eq_none_iff]
        intro p hp
        have hm:p.1 ∈ l.map (·.1):=List.mem_map_of_mem (List.mem_reverse.mp hp)
        exact bne_iff_ne.mpr fun q=>hn.1 (q ▸ hm)
      rw [this]
      simp
    | succ i =>
      rw [ih hn.2 (by simpa using h)]
      rfl
theorem map_fst_zip':∀ (l:List Str) (r:List Value),(l.zip r).map (·.1) = l.take r.length
  | [],_=>by simp
  | _ :: _,[]=>by simp
  | x :: l,y :: r=>by simp [map_fst_zip' l r]
theorem CallOk.of (G:Glb C) {n:Str} {f0:Addr} {params:Arguments} {body:List Stmt} {scope:Scope} {dV cdv:Value} {names:List Str} {d:Nat} {f:Store→Option Out} (hf:FnAt C n f0 params body scope dV cdv)
    (hb:SS C ⟨scope,names,d⟩ body f) {ds ds':List PyData} {o:Out}
    (hbind:∀ s kV doc pm an ct (vs:List Value),C.base.StaysIn s.heap→RdL s.heap vs ds→∃ vs',RdL s.heap vs' ds'∧BindsTo s (fnOf n n params body scope dV kV doc pm an cdv ct) ⟨vs,[]⟩ (names.zip vs'))
    (hr:f (store0 ds' names.length) = some o) (hk:scope.kind = .function) (hco:scope.isCoroutine = false) (hgen:scope.isGenerator = false) (hcell:∀ x ∈ scope.names,x.2 ≠ .cell)
    (hloc:∀ x ∈ names,scope.names.lookup x = some .local) (hnd:names.Nodup) (hlen:ds'.length ≤ names.length) (hnc:("code":Str) ∉ names):CallOk C (d + 1) n ds (outR o):=by
  intro f1 hf1 A fs R s vs Q E hst hbs hfr r post
  obtain ⟨hn,⟨fo,kV,doc,pm,an,ct,hfo,hfd⟩,hcd⟩:=hf
  rw [hn] at hf1;cases hf1
  obtain ⟨vs',r',hb'⟩:=hbind s kV doc pm an ct vs hst r
  have hroom:A.depth < recursionLimit:=by have:=R.dep;lia
  have hl':(names.zip vs').length = vs'.length:=by rw [List.length_zip,r'.length];lia
  refine wpAny_call (codeAny_call_def (fd:=fnOf n n params body scope dV kV doc pm an cdv ct) (body:=body) hroom (hst _ _ hfo) hfd (G.nolimit.keeps hst) (hcd.keeps hst) rfl hb' hcell (fun x hx=>hloc x.1 (List.of_mem_zip hx).1) (fun h₀ hns hk₀=>?_) hco hgen hk)
  let X:Fx:={ name:=n,scope:=scope,L:=s.heap.objs.size,a:=f0,cd:=cdv,outer:=fs,g:=s.heap,names:=names,A:=A.deeper (envOf n scope s.heap.objs.size f0 cdv),keep:=[] }
  have hX:Fits ⟨scope,names,d⟩ X:=⟨rfl,rfl,⟨R.hd,by show A.frames.map _ = _;rw [R.fr];rfl,by have:=R.dep;show A.depth + 1 + d < _;lia,by have:=R.un;show A.units + 3 + 4 * d + 3000 < _;lia⟩⟩
  have up:Up s.heap h₀:=.of_keeps hk₀
  have I:FInv C X (store0 ds' names.length) h₀ :=
    { stays:=fun b o e=>hk₀ b o (hst b o e)
      up:=up
      gframes:=hfr
      kind:=hk
      lnew:=by
        cases hq:s.heap.get? s.heap.objs.size with
        | none=>rfl
        | some o=>exact absurd (Heap.lt_size hq) (Nat.lt_irrefl _)
      gsz:=Nat.le_refl _
      kept:=fun p hp=>by cases hp
      dom:=by
        rw [← hns.eq_nsMap,List.lookup_eq_none_iff]
        intro p hp
        exact bne_iff_ne.mpr fun q=>hnc (q ▸ (List.of_mem_zip (List.mem_reverse.mp hp)).1)
      loc:=by
        refine ⟨_,⟨hns,fun b o e=>hk₀ b o (hst b o e),hbs⟩,fun i x d' e1 e2=>?_,fun i ds e=>by cases e⟩
        have hi:ds'[i]? = some d':=by
          unfold store0 at e2
          dsimp only at e2
          rw [List.getElem?_append] at e2
          split at e2
          · rw [List.getElem?_map] at e2
            obtain ⟨d'',e3,e4⟩:=Option.map_eq_some_iff.mp e2
            cases e4;exact e3
          · rw [List.getElem?_replicate] at e2
            split at e2 <;> cases e2
        obtain ⟨v,e3,rv⟩:=r'.get hi
        refine ⟨v,lookup_rev_of ?_ (i:=i) ?_,rv.up up⟩
        · rw [map_fst_zip']
          exact hnd.sublist (List.take_sublist _ _)
        · rw [List.getElem?_zip_eq_some]
          exact ⟨e1,e3⟩ }
  refine hb X hX _ { s with heap:=h₀,toks:=s.toks + (names.zip vs').length } _ _ o hr I (PassesOwn.leaving) ?_
  obtain ⟨σ,fl⟩:=o
  cases fl with
  | nxt=>exact fun h' tk I'=>post .none h' tk ⟨I'.stays,I'.up⟩ .none
  | brk=>exact fun h' tk I'=>post .none h' tk ⟨I'.stays,I'.up⟩ .none
  | ret dd=>exact fun v h' tk a b c=>post v h' tk ⟨a,b⟩ c
  | exc t =>
    intro x h' tk I' x2
    refine leave_fly (s:={ s with heap:=h',toks:=tk }) hX.room.fr I'.frames rfl x2 I'.stays fun h2 x3 x4=>?_
    exact post x h2 tk ⟨x3.1,I'.up.trans x3.2⟩ x4
end
end Mine
end
section
set_option tactic.hygienic false
open PySem PySem.W PyProof.Rows PySem.Spec PySem.Calls
namespace Mine
noncomputable abbrev EB:List Value:=[.type "Exception",.type "BaseException",.type "object"]
noncomputable abbrev excObj (C:Cx) (N:Addr) (k0 k1 k2 k3 k5:Option Value):Obj:=excClassObj "Raised" "Raised" C.exc N [.type "Exception"] EB true [] [] false none none k0 k1 k2 k3 k5 "Exception.__new__"
structure ExcAt (C:Cx) (N:Addr) (mN:Str→Option Value) (k0 k1 k2 k3 k5:Option Value):Prop where
  cls:C.base.get? C.exc = some (excObj C N k0 k1 k2 k3 k5)
  ns:C.base.Ns N mN
noncomputable def attrs:List Str:=["code","value","errorcode","level","ret","info","is_noted","line","extra"]
theorem attrs_free:∀ n ∈ attrs,typeLookup (.type "Exception") n = pure none:=by
  intro n hn
  simp only [attrs,List.mem_cons,List.not_mem_nil,or_false] at hn
  rcases hn with rfl | rfl | rfl | rfl | rfl | rfl | rfl | rfl | rfl <;> (rw [typeLookup_type,builtinLookup_eq_fast];kernel_rfl)
section
open Builtin Builtin.ObjectAttr
variable {prog:Program} {w:World} {A:Around} {E:Value→Shared→Prop} {h:Heap} {g:Array GenState} {d:Drawn} {t:Nat} {os:OsState}
variable {nm q:Str} {K N x:Addr} {bs bm:List Value} {sn:List Str} {sub:List Value} {ab:Bool} {col:Option Bool} {dd:Option Addr} {k0 k1 k2 k3 k5:Option Value} {B newId sa owner:String}
  {mN:Str→Option Value} {name:Str} {v:Value} {o:Obj}
theorem first_entry {tk:Tok} {Q:Fin→Shared→Prop} (SF:StoreFacts B bm sa owner) (hC:h.get? K = some (excClassObj nm q K N bs bm true sn sub ab col dd k0 k1 k2 k3 k5 newId)) (hn:h.Ns N mN) (hna:mN name = none)
    (hB:typeLookup (.type B) name = pure none) (hx:h.get? x = some o) (hc:o.cls = .ref K) (hnc:∀ c,o.data ≠ .cls c) (hd:o.dict = none)
    (hq:∀ h' tk',h'.Ns1 h.objs.size (fun y=>if y = name then some v else none)→h'.get? x = some { o with dict:=some h.objs.size }→(∀ b ob,b ≠ x→h.get? b = some ob→h'.get? b = some ob)→Q (.done (.ret .none)) ⟨h',g,d,tk',os⟩) :
    wpAny (model prog w) A (Builtin.«object.__setattr__» ⟨[.ref x,.str name tk,v],[]⟩) Q E ⟨h,g,d,t,os⟩:=by
  have hpass:=SF.passes (.ref x)
  unfold Builtin.«object.__setattr__»
  repeat (first | rw [refuse_eq] | (rw [refuseLoop_ref,hpass]) | (with_reducible refine wpAny_loadPart_at hx ?_;rw [hc]) | with_reducible refine wpAny_mroOf_exc hC ?_ | (with_reducible refine wpAny_typeLookup_exc hC hn SF.mro hB ?_;rw [hna]) | wp_step)
  rw [hd,if_neg (by simp [typeHasDict])]
  split
  · rename_i hcd;cases hcd
  split
  · rename_i c hcd;exact absurd hcd (hnc c)
  have hx₁:(h.push { cls:=.type "dict",data:=.dict #[] }).get? x = some o:=Heap.get?_push_of_some _ hx
  have hxs:x ≠ h.objs.size:=Nat.ne_of_lt (Heap.lt_size hx)
  refine wpAny_bind (wpAny_alloc' (wpAny_bind (wpAny_update' hx₁ (wpAny_pure ?_))))
  have hgd:((h.push { cls:=.type "dict",data:=.dict #[] }).update x fun o=>{ cls:=o.cls,dict:=some h.objs.size,data:=o.data,slots:=o.slots }).get? h.objs.size = some { cls:=.type "dict",data:=.dict #[] } :=
    (Heap.get?_update_ne _ _ _ _ hxs.symm).trans (Heap.get?_push_at rfl rfl)
  have hnd:((h.push { cls:=.type "dict",data:=.dict #[] }).update x fun o=>{ cls:=o.cls,dict:=some h.objs.size,data:=o.data,slots:=o.slots }).Ns h.objs.size (fun _=>none) :=
    ⟨_,#[],_,hgd,rfl,fun e he=>absurd he (by simp),fun _=>rfl⟩
  show wpAny _ _ (storeInDict h.objs.size (.str name tk) name v) _ _ _
  unfold storeInDict newKeyGuard
  refine wpAny_bind (wpAny_pure (wpAny_bind (wpAny_nsSet1 (Heap.Ns1.of_empty hnd) fun h' hn' hs=>?_)))
  obtain ⟨oD,esD,epD,hoD,hdD,hcD⟩:=hn'.count (Within.cons name v Within.nil)
  refine wpAny_bind (wpAny_lookBehind hoD (by rw [hdD];exact pastItsLine_dict (Nat.le_trans hcD (by rw [List.length_cons,List.length_nil,sizeLine_eq];lia))) ?_)
  wp_walk
  refine hq h' _ hn' ((hs.2 x hxs).trans (Heap.get?_update_self _ hx₁ ?_)) fun b ob hbx hb=>(hs.2 b (Nat.ne_of_lt (Heap.lt_size hb))).trans ((Heap.get?_update_ne _ _ _ _ hbx).trans (Heap.get?_push_of_some _ hb))
  have hfr:=(Heap.get?_some_iff.mp hx).2
  obtain ⟨oc,od,odt,osl⟩:=o
  cases odt <;> first | rfl | exact hfr
theorem first_attr {Q:Unit→Shared→Prop} (SF:StoreFacts B bm sa owner) (hC:h.get? K = some (excClassObj nm q K N bs bm true sn sub ab col dd k0 k1 k2 k3 k5 newId)) (hn:h.Ns N mN) (hns:mN "__setattr__" = none) (hna:mN name = none)
    (hB:typeLookup (.type B) name = pure none) (hx:h.get? x = some o) (hc:o.cls = .ref K) (hnc:∀ c,o.data ≠ .cls c) (hd:o.dict = none)
    (hq:∀ h' tk',h'.Ns1 h.objs.size (fun y=>if y = name then some v else none)→h'.get? x = some { o with dict:=some h.objs.size }→(∀ b ob,b ≠ x→h.get? b = some ob→h'.get? b = some ob)→Q () ⟨h',g,d,tk',os⟩) :
    wpAny (model prog w) A (setAttr (.ref x) name v) Q E ⟨h,g,d,t,os⟩:=by
  have f3:=SF.slot.bind (.ref x)
  unfold setAttr callSpecial? specialOf
  repeat (any_goals (first | assumption | (with_reducible refine wpAny_loadPart_at hx ?_;rw [hc]) | (with_reducible refine wpAny_typeLookup_exc hC hn SF.mro SF.slot.lookup ?_;rw [hns]) | wp_step))
  refine codeAny_call_builtin SF.slot.plain SF.entry (wpAny_check_sa SF hC hx hc (first_entry SF hC hn hna hB hx hc hnc hd fun h' tk' a b c=>?_))
  repeat (any_goals (first | assumption | wp_step))
  exact hq h' tk' a b c
end
section
variable {C:Cx} {A:Around} {N:Addr} {mN:Str→Option Value} {k0 k1 k2 k3 k5:Option Value}
structure Ini (C:Cx) (s0:Heap) (L e:Addr) (m:Str→Option Value) (dx:Option Addr) (mA:Str→Option Value) (h:Heap):Prop where
  stays:C.base.StaysIn h
  up:Up s0 h
  fr:h.Ns L m
  size:C.base.objs.size ≤ L
  size0:s0.objs.size ≤ L
  new:C.base.get? e = none
  obj:∃ o vs t,h.get? e = some o∧o.cls = .ref C.exc∧o.data = .fields vs∧vs[0]? = some (.ref t)∧vs[1]? = some .none∧o.dict = dx
  dict:match dx with
    | none=>∀ n,mA n = none
    | some d=>d ≠ e∧d ≠ L∧s0.get? d = none∧C.base.get? d = none∧h.Ns1 d mA
theorem Ini.ne {s0:Heap} {L e:Addr} {m:Str→Option Value} {dx:Option Addr} {mA:Str→Option Value} {h:Heap} (I:Ini C s0 L e m dx mA h):L ≠ e:=fun q=>by
  obtain ⟨o,vs,t,h1,_,h3,_⟩:=I.obj
  obtain ⟨oL,es,ep,h4,h5,_⟩:=I.fr
  rw [q,h1] at h4;cases h4;rw [h3] at h5;cases h5
theorem Ini.keep {s0:Heap} {L e:Addr} {m:Str→Option Value} {dx:Option Addr} {mA:Str→Option Value} {h h':Heap} (I:Ini C s0 L e m dx mA h) (k:∀ b o,h.get? b = some o→h'.get? b = some o):Ini C s0 L e m dx mA h' where
  stays:=fun b o q=>k b o (I.stays b o q)
  up:=I.up.trans (.of_keeps k)
  fr:=I.fr.keeps k
  size:=I.size
  size0:=I.size0
  new:=I.new
  obj:=by obtain ⟨o,vs,t,h1,r⟩:=I.obj;exact ⟨o,vs,t,k _ _ h1,r⟩
  dict:=by
    have:=I.dict
    cases dx with
    | none=>exact this
    | some d=>exact ⟨this.1,this.2.1,this.2.2.1,this.2.2.2.1,this.2.2.2.2.at fun o q=>k _ _ q⟩
theorem ini_store {s0:Heap} {L e d:Addr} {m:Str→Option Value} {mA:Str→Option Value} {s:Shared} {name:Str} {v:Value} {ns:List Str} {Q:Unit→Shared→Prop} {E:Value→Shared→Prop}
    (X:ExcAt C N mN k0 k1 k2 k3 k5) (hns:mN "__setattr__" = none) (hna:mN name = none) (hB:typeLookup (.type "Exception") name = pure none) (I:Ini C s0 L e m (some d) mA s.heap)
    (h:∀ h' tk,Ini C s0 L e m (some d) (fun y=>if y = name then some v else mA y) h'→Q () { s with heap:=h',toks:=tk }) (hw:Within mA ns) (hsz:ns.length ≤ 100) :
    wpAny C.M A (setAttr (.ref e) name v) Q E s:=by
  obtain ⟨hp,g,dd,tk,os⟩:=s
  have hC:hp.get? C.exc = some (excObj C N k0 k1 k2 k3 k5):=I.stays _ _ X.cls
  obtain ⟨o,vs,t,h1,h2,h3,h4,h4',h5⟩:=I.obj
  obtain ⟨d1,d2,d3,d4,d5⟩:=I.dict
  have hxC:e ≠ C.exc:=fun q=>by rw [q,hC] at h1;cases h1;cases h3
  refine store_attr F.store_Exception hC (X.ns.keeps I.stays) hns hna hB hxC (mA:=mA) (show hp.Inst e C.exc mA from ⟨o,h1,h2,(fun c q=>by rw [h3] at q;cases q),.inr ⟨d,h5,d1,d5⟩⟩) (fun h' tk' I' hk hsame=>?_) hw (by rw [sizeLine_eq];lia)
  obtain ⟨o₁,q1,q2,q3,q4,q5⟩:=hsame o h1
  have k:∀ b ob,b ≠ e→b ≠ d→hp.get? b = some ob→h'.get? b = some ob:=fun b ob hb hd q=>hk b ob hb (fun o₀ dx z1 z2=>by
    have z1':hp.get? e = some o₀:=z1
    rw [h1] at z1';cases z1';rw [h5] at z2;cases z2;exact hd) q
  refine h h' tk' ⟨fun b ob q=>k b ob (fun z=>by rw [z,I.new] at q;cases q) (fun z=>by rw [z,d4] at q;cases q) (I.stays b ob q),⟨fun b ob q nf=>?_,fun b ob q i=>k b _ (fun w=>by have z:=I.up.its b ob q i;rw [w,h1] at z;cases z;exact notIt_ref h2 i) (fun w=>by rw [w,d3] at q;cases q) (I.up.its b ob q i)⟩,?_,I.size,I.size0,I.new,
    ⟨o₁,vs,t,q1,q2.trans h2,q3.trans h3,h4,h4',q5 d h5⟩,d1,d2,d3,d4,?_⟩
  · obtain ⟨sl,z⟩:=I.up.slots b ob q nf
    exact ⟨sl,k b _ (fun w=>by rw [w,h1] at z;cases z;exact nf _ h3) (fun w=>by rw [w,d3] at q;cases q) z⟩
  · obtain ⟨oL,es,ep,z1,z2⟩:=I.fr
    exact ⟨oL,es,ep,k _ _ I.ne (Ne.symm d2) z1,z2⟩
  · obtain ⟨o₂,w1,w2,w3,w4⟩:=I'
    rw [q1] at w1;cases w1
    rcases w4 with ⟨w5,_⟩ | ⟨d',w5,_,w6⟩
    · rw [q5 d h5] at w5;cases w5
    · rw [q5 d h5] at w5;cases w5;exact w6
theorem ini_first {s0:Heap} {L e:Addr} {m:Str→Option Value} {mA:Str→Option Value} {s:Shared} {name:Str} {v:Value} {Q:Unit→Shared→Prop} {E:Value→Shared→Prop}
    (X:ExcAt C N mN k0 k1 k2 k3 k5) (hns:mN "__setattr__" = none) (hna:mN name = none) (hB:typeLookup (.type "Exception") name = pure none) (I:Ini C s0 L e m none mA s.heap)
    (h:∀ d h' tk,Ini C s0 L e m (some d) (fun y=>if y = name then some v else mA y) h'→Q () { s with heap:=h',toks:=tk }) :
    wpAny C.M A (setAttr (.ref e) name v) Q E s:=by
  obtain ⟨hp,g,dd,tk,os⟩:=s
  have hC:hp.get? C.exc = some (excObj C N k0 k1 k2 k3 k5):=I.stays _ _ X.cls
  obtain ⟨o,vs,t,h1,h2,h3,h4,h4',h5⟩:=I.obj
  refine first_attr F.store_Exception hC (X.ns.keeps I.stays) hns hna hB h1 h2 (fun c q=>by rw [h3] at q;cases q) h5 fun h' tk' n1 n2 n3=>?_
  have k:∀ b ob,b ≠ e→hp.get? b = some ob→h'.get? b = some ob:=n3
  obtain ⟨oL,es,ep,z1,z2⟩:=id I.fr
  have old:∀ {B:Heap},B.objs.size ≤ L→B.get? hp.objs.size = none:=fun {B} q=>by
    cases w:B.get? hp.objs.size with
    | none=>rfl
    | some ob =>
      have a:=Heap.lt_size w
      have b:=Heap.lt_size z1
      exact absurd (Nat.lt_of_lt_of_le a q) (Nat.not_lt.mpr (Nat.le_of_lt b))
  refine h hp.objs.size h' tk' ⟨fun b ob q=>k b ob (fun z=>by rw [z,I.new] at q;cases q) (I.stays b ob q),⟨fun b ob q nf=>?_,fun b ob q i=>k b _ (fun w=>by
      have z:hp.get? b = some ob:=I.up.its b ob q i
      rw [w,h1] at z;cases z;exact notIt_ref h2 i) (I.up.its b ob q i)⟩,⟨oL,es,ep,k _ _ I.ne z1,z2⟩,I.size,I.size0,I.new,
    ⟨_,vs,t,n2,h2,h3,h4,h4',rfl⟩,Nat.ne_of_gt (Heap.lt_size h1),Nat.ne_of_gt (Heap.lt_size z1),old I.size0,old I.size,?_⟩
  · obtain ⟨sl,z⟩:=I.up.slots b ob q nf
    exact ⟨sl,k b _ (fun w=>by
      have z':hp.get? b = some { ob with slots:=sl }:=z
      rw [w,h1] at z';cases z';exact nf _ h3) z⟩
  · have e2:(fun y=>if y = name then some v else mA y) = fun y=>if y = name then some v else none:=by
      funext y
      rw [I.dict y]
    rw [e2]
    exact n1
end
end Mine
end
section
set_option tactic.hygienic false
open PySem PySem.W PyProof.Rows PySem.Spec PySem.Calls
namespace Mine
section
variable {C:Cx} {A:Around} {N:Addr} {mN:Str→Option Value} {k0 k1 k2 k3 k5:Option Value}
theorem ini_args {s0:Heap} {L e:Addr} {m:Str→Option Value} {mA:Str→Option Value} {s:Shared} {v:Value} {Q:Value→Shared→Prop} {E:Value→Shared→Prop}
    (X:ExcAt C N mN k0 k1 k2 k3 k5) (I:Ini C s0 L e m none mA s.heap) (h:∀ h' tk,Ini C s0 L e m none mA h'→Q .none { s with heap:=h',toks:=tk }) :
    wpAny C.M A (call (.builtin "Exception.__init__") [.ref e,v]) Q E s:=by
  obtain ⟨hp,g,dd,tk,os⟩:=s
  have hC:hp.get? C.exc = some (excObj C N k0 k1 k2 k3 k5):=I.stays _ _ X.cls
  obtain ⟨o,vs,t,h1,h2,h3,h4,h4',h5⟩:=I.obj
  have F:=PySem.F.excBase_Exception
  refine wpAny_call (codeAny_call_builtin F.init.plain F.initEntry (wpAny_check_init_sub F hC h1 h2 ?_))
  unfold Builtin.«BaseException.__init__»
  dsimp only
  rw [if_neg (by simp)]
  unfold newTuple Builtin.BaseException.bexcPut
  have hsz:0 < vs.size:=(Array.getElem?_eq_some_iff.mp h4).1
  have he₁:=Heap.get?_push_of_some (h:=hp) { cls:=.type "tuple",data:=.seq [v].toArray } h1
  refine wpAny_bind (wpAny_newObj_type (wpAny_bind (wpAny_bind (wpAny_field he₁ h3 h4 (wpAny_bind (wpAny_setField he₁ h3 hsz ?_))))) (by show 1 ≤ sizeLine;rw [sizeLine_eq];lia))
  refine wpAny_letGo (wpAny_pure ?_)
  have I':=I.keep (h':=hp.push { cls:=.type "tuple",data:=.seq [v].toArray }) fun b ob q=>Heap.get?_push_of_some _ q
  refine h _ tk ⟨stays_of_fields I'.stays I.new,I'.up.trans (up_of_fields he₁ h3 (notIt_ref h2)),?_,I.size,I.size0,I.new,⟨_,_,hp.objs.size,Heap.get?_update_self _ he₁ (Obj.isFreed_of_fields (Obj.data_mapFields h3 _)),(Obj.cls_mapFields _ _).trans h2,Obj.data_mapFields h3 _,?_,?_,(dict_mapFields _ _).trans h5⟩,I.dict⟩
  · exact (up_of_fields he₁ h3 (notIt_ref h2)).slots.ns I'.fr
  · simp [hsz]
  · rw [Array.getElem?_setIfInBounds_ne (by decide)];exact h4'
theorem meta_Exception:typeOf (.type "Exception") = pure (.type "type"):=by
  first | rfl | kernel_rfl
theorem find_init:findCls [] (.type "Exception") (.type "type") "__init__" = some (.val (.builtin "Exception.__init__")):=by first | rfl | kernel_rfl
theorem ini_first_stmt {s0:Heap} {L e:Addr} {m:Str→Option Value} {mA:Str→Option Value} {s:Shared} {v:Value} {n:Str} {scope:Scope} {a:Addr} {cd:Value} {p1 p2 p3 p4 p5 p6:Pos} {Q:Flow→Shared→Prop} {E:Value→Shared→Prop}
    (G:Glb C) (X:ExcAt C N mN k0 k1 k2 k3 k5) (I:Ini C s0 L e m none mA s.heap) (hself:m "self" = some (.ref e)) (hval:m "value" = some v)
    (hk:scope.kind = .function) (l1:scope.names.lookup (Str.ofString "self") = some .local) (l2:scope.names.lookup (Str.ofString "value") = some .local) (l3:scope.names.lookup (Str.ofString "Exception") = some .globalImplicit) (hg:C.mg "Exception" = none)
    (he:eval (.Call (.Attribute (.Name "Exception" p1) "__init__" p2) [.Name "self" p3,.Name "value" p4] [] p5) (envOf n scope L a cd) = (do
      let ov ← eval (.Name "Exception" p1) (envOf n scope L a cd)
      standAt p2.atName
      let (f,first) ← holding [ov] (getMethod ov "__init__" (do return (← importBound (.Name "Exception" p1) (envOf n scope L a cd)).getD true))
      callWith p5 f first (backTo p5 (starEach [.Name "self" p3,.Name "value" p4] (envOf n scope L a cd))) []))
    (h:∀ h' tk,Ini C s0 L e m none mA h'→Q .next { s with heap:=h',toks:=tk }) :
    wpAny C.M A (exec (.Expr (.Call (.Attribute (.Name "Exception" p1) "__init__" p2) [.Name "self" p3,.Name "value" p4] [] p5) p6) (envOf n scope L a cd)) Q E s:=by
  have F:Fr C.base L s.heap m:=⟨I.fr,I.stays,I.size⟩
  refine wpAny_Expr (MethodCall_ ?_ (pl:=(do return (← importBound (.Name "Exception" p1) (envOf n scope L a cd)).getD true)) ?_) (by show (scope.kind == .module && _) = false;rw [hk];rfl) rfl
  · refine Name_function_global hk l3 (loadGlobal_builtin (env:=envOf n scope L a cd) (G.g.keeps I.stays) hg (G.b.keeps I.stays) ((G.builtins "Exception" (by decide)).trans PyProof.Rows.Boot.«Exception») ?_) (by decide)
    refine method_type (K:=[]) F (fun _ _ q=>by cases q) meta_Exception (by decide +kernel) find_init (by decide +kernel) ?_
    refine callWith_method1 (args_cons (ld (s:={ s with toks:=s.toks + 1 }) F hself ?_ hk l1 (by decide)) rfl) rfl rfl
    refine args_cons (ld (s:={ s with toks:=s.toks + 1 }) F hval ?_ hk l2 (by decide)) rfl
    refine args_nil ?_
    exact ini_args (s:={ s with toks:=s.toks + 1 }) X I fun h' tk I'=>h h' tk I'
  · exact he
theorem ini_attr0 {s0:Heap} {L e:Addr} {m:Str→Option Value} {mA:Str→Option Value} {s:Shared} {name:Str} {n:Str} {scope:Scope} {a:Addr} {cd:Value} {p1 p2 p3:Pos} {ev:Expr} {Q:Flow→Shared→Prop} {E:Value→Shared→Prop}
    (X:ExcAt C N mN k0 k1 k2 k3 k5) (hns:mN "__setattr__" = none) (hna:mN name = none) (hB:typeLookup (.type "Exception") name = pure none) (hself:m "self" = some (.ref e)) (hk:scope.kind = .function) (l1:scope.names.lookup (Str.ofString "self") = some .local)
    {v:Value} (hev:wpAny C.M A (eval ev (envOf n scope L a cd)) (fun u s'=>u = v∧Ini C s0 L e m none mA s'.heap∧∃ h' tk,s' = { s with heap:=h',toks:=tk }) E s)
    (h:∀ d h' tk,Ini C s0 L e m (some d) (fun y=>if y = name then some v else mA y) h'→Q .next { s with heap:=h',toks:=tk }) (hsw:swapsWith ev (some (.Attribute (.Name "self" p1) name p2)) p3.line (envOf n scope L a cd) = pure false) :
    wpAny C.M A (exec (.Assign [.Attribute (.Name "self" p1) name p2] ev p3) (envOf n scope L a cd)) Q E s:=by
  refine plainObj_wpAny_Assign_Attribute (wpAny_mono hev (fun u s' h1=>?_) fun _ _ z=>z) hsw
  obtain ⟨rfl,I,h',tk,rfl⟩:=h1
  exact ld (s:={ s with heap:=h',toks:=tk }) (⟨I.fr,I.stays,I.size⟩:Fr C.base L h' m) hself (ini_first (s:={ s with heap:=h',toks:=tk }) X hns hna hB I h) hk l1 (by decide)
theorem ini_attr {s0:Heap} {L e d:Addr} {m:Str→Option Value} {mA:Str→Option Value} {s:Shared} {name:Str} {n:Str} {scope:Scope} {a:Addr} {cd:Value} {p1 p2 p3:Pos} {ev:Expr} {ns:List Str} {Q:Flow→Shared→Prop} {E:Value→Shared→Prop}
    (X:ExcAt C N mN k0 k1 k2 k3 k5) (hns:mN "__setattr__" = none) (hna:mN name = none) (hB:typeLookup (.type "Exception") name = pure none) (hself:m "self" = some (.ref e)) (hk:scope.kind = .function) (l1:scope.names.lookup (Str.ofString "self") = some .local)
    {P:Value→Prop} (hev:wpAny C.M A (eval ev (envOf n scope L a cd)) (fun u s'=>P u∧Ini C s0 L e m (some d) mA s'.heap∧∃ h' tk,s' = { s with heap:=h',toks:=tk }) E s)
    (h:∀ v h' tk,P v→Ini C s0 L e m (some d) (fun y=>if y = name then some v else mA y) h'→Q .next { s with heap:=h',toks:=tk }) (hsw:swapsWith ev (some (.Attribute (.Name "self" p1) name p2)) p3.line (envOf n scope L a cd) = pure false)
    (hw:Within mA ns) (hsz:ns.length ≤ 100) :
    wpAny C.M A (exec (.Assign [.Attribute (.Name "self" p1) name p2] ev p3) (envOf n scope L a cd)) Q E s:=by
  refine plainObj_wpAny_Assign_Attribute (wpAny_mono hev (fun u s' h1=>?_) fun _ _ z=>z) hsw
  obtain ⟨hp,I,h',tk,rfl⟩:=h1
  exact ld (s:={ s with heap:=h',toks:=tk }) (⟨I.fr,I.stays,I.size⟩:Fr C.base L h' m) hself (ini_store (s:={ s with heap:=h',toks:=tk }) X hns hna hB I (fun h2 t2 I2=>h u h2 t2 hp I2) hw hsz) hk l1 (by decide)
theorem ev_name {s0:Heap} {L e:Addr} {m:Str→Option Value} {dx:Option Addr} {mA:Str→Option Value} {s:Shared} {x:Str} {v:Value} {n:Str} {scope:Scope} {a:Addr} {cd:Value} {p:Pos} {E:Value→Shared→Prop}
    (I:Ini C s0 L e m dx mA s.heap) (hv:m x = some v) (hk:scope.kind = .function) (l1:scope.names.lookup x = some .local) (hd:(x == ("__debug__":Str)) = false) :
    wpAny C.M A (eval (.Name x p) (envOf n scope L a cd)) (fun u s'=>u = v∧Ini C s0 L e m dx mA s'.heap∧∃ h' tk,s' = { s with heap:=h',toks:=tk }) E s :=
  ld (⟨I.fr,I.stays,I.size⟩:Fr C.base L s.heap m) hv ⟨rfl,I,_,_,rfl⟩ hk l1 hd
theorem ev_const {s0:Heap} {L e:Addr} {m:Str→Option Value} {dx:Option Addr} {mA:Str→Option Value} {s:Shared} {c:Const} {k:Nat} {env:Env} {p:Pos} {E:Value→Shared→Prop} (I:Ini C s0 L e m dx mA s.heap)
    (hc:(∃ x,c = .str x) ∨ (∃ i,c = .int i) ∨ ∃ b,c = .bool b) :
    wpAny C.M A (eval (.Constant c k p) env) (fun _ s'=>True∧Ini C s0 L e m dx mA s'.heap∧∃ h' tk,s' = { s with heap:=h',toks:=tk }) E s:=by
  rcases hc with ⟨x,rfl⟩ | ⟨i,rfl⟩ | ⟨b,rfl⟩
  · exact Constant_str ⟨trivial,I,_,_,rfl⟩
  · exact wpAny_Constant_int ⟨trivial,I,_,_,rfl⟩
  · exact wpAny_Constant_bool ⟨trivial,I,_,_,rfl⟩
theorem ev_list {s0:Heap} {L e:Addr} {m:Str→Option Value} {dx:Option Addr} {mA:Str→Option Value} {s:Shared} {env:Env} {p:Pos} {E:Value→Shared→Prop} (I:Ini C s0 L e m dx mA s.heap) :
    wpAny C.M A (eval (.List [] p) env) (fun _ s'=>True∧Ini C s0 L e m dx mA s'.heap∧∃ h' tk,s' = { s with heap:=h',toks:=tk }) E s:=by
  refine List_ (args_nil (wpAny_newObj_type ⟨trivial,I.keep fun _ _ q=>Heap.get?_push_of_some _ q,_,_,rfl⟩ ?_))
  show 0 ≤ sizeLine
  exact Nat.zero_le _
end
end Mine
end
section
set_option tactic.hygienic false
open PySem PySem.W PyProof.Rows PySem.Spec PySem.Calls
namespace Mine
section
variable {C:Cx} {A:Around} {N:Addr} {mN:Str→Option Value} {k0 k1 k2 k3 k5:Option Value}
structure InitAt (C:Cx) (fI:Addr) (dV cdv:Value):Prop where
  at_:∃ fo kV doc pm an ct,C.base.get? fI = some fo∧fo.cls = .type "function"∧fo.data = .func (fnOf "__init__" "Raised.__init__" (paramsOf initStm) (bodyOf initStm) (scopeOf initStm) dV kV doc pm an cdv ct)
  code:C.base.CodeRec cdv "Raised.__init__"
  dflt:∃ T oT a b c d e n,dV = .ref T∧C.base.get? T = some oT∧oT.data = .seq #[.ref a,.int b c,.int d e] n
theorem init_cell:∀ x ∈ (scopeOf initStm).names,x.2 ≠ .cell:=by decide
theorem ini_next {s0:Heap} {L e d:Addr} {m:Str→Option Value} {mA:Str→Option Value} {s:Shared} {name:Str} {n:Str} {scope:Scope} {a:Addr} {cd:Value} {p1 p2 p3:Pos} {ev:Expr} {ns:List Str} {Q:Flow→Shared→Prop} {E:Value→Shared→Prop} {x y z:Value}
    (X:ExcAt C N mN k0 k1 k2 k3 k5) (hns:mN "__setattr__" = none) (hna:mN name = none) (hB:typeLookup (.type "Exception") name = pure none) (hself:m "self" = some (.ref e)) (hk:scope.kind = .function) (l1:scope.names.lookup (Str.ofString "self") = some .local)
    (V:mA "code" = some x∧mA "value" = some y∧mA "errorcode" = some z) (hn:("code":Str) ≠ name∧("value":Str) ≠ name∧("errorcode":Str) ≠ name)
    {P:Value→Prop} (hev:wpAny C.M A (eval ev (envOf n scope L a cd)) (fun u s'=>P u∧Ini C s0 L e m (some d) mA s'.heap∧∃ h' tk,s' = { s with heap:=h',toks:=tk }) E s)
    (hsw:swapsWith ev (some (.Attribute (.Name "self" p1) name p2)) p3.line (envOf n scope L a cd) = pure false)
    (hw:Within mA ns) (hsz:ns.length ≤ 100)
    (h:∀ h' tk mA',Ini C s0 L e m (some d) mA' h'→(mA' "code" = some x∧mA' "value" = some y∧mA' "errorcode" = some z)→Within mA' (name :: ns)→Q .next { s with heap:=h',toks:=tk }) :
    wpAny C.M A (exec (.Assign [.Attribute (.Name "self" p1) name p2] ev p3) (envOf n scope L a cd)) Q E s :=
  ini_attr X hns hna hB hself hk l1 hev (fun v h' tk _ I=>h h' tk _ I ⟨(if_neg hn.1).trans V.1,(if_neg hn.2.1).trans V.2.1,(if_neg hn.2.2).trans V.2.2⟩ (.cons name v hw)) hsw hw hsz
theorem init_body {s0:Heap} {L e a:Addr} {cd vec vl vr:Value} {m:Str→Option Value} {s:Shared} {n:Str} {t1 t2:Tok} {t:Str} {Q:Flow→Shared→Prop} {E:Value→Shared→Prop} (G:Glb C) (X:ExcAt C N mN k0 k1 k2 k3 k5) (hns:mN "__setattr__" = none)
    (hna:∀ n ∈ attrs,mN n = none) (hg:C.mg "Exception" = none) (m0:m "self" = some (.ref e)) (m1:m "code" = some (.int 1 t1)) (m2:m "value" = some (.str t t2)) (m3:m "errorcode" = some vec) (m4:m "level" = some vl) (m5:m "ret" = some vr)
    (I0:Ini C s0 L e m none (fun _=>none) s.heap)
    (post:∀ h tk mA d,Ini C s0 L e m (some d) mA h→(mA "code" = some (.int 1 t1)∧mA "value" = some (.str t t2)∧mA "errorcode" = some vec)→Q .next { s with heap:=h,toks:=tk }) :
    wpAny C.M A (execs (bodyOf initStm) (envOf n (scopeOf initStm) L a cd)) Q E s:=by
  refine wpAny_execs_cons (ini_first_stmt G X I0 m0 m2 rfl rfl rfl rfl hg rfl fun h1 tk1 I1=>?_)
  refine wpAny_execs_cons (ini_attr0 (s:={ s with heap:=h1,toks:=_ }) X hns (hna _ (by decide)) (attrs_free _ (by decide)) m0 rfl rfl (ev_name I1 m1 rfl rfl rfl) (fun dx h2 tk2 I2=>?_) rfl)
  refine wpAny_execs_cons (ini_attr (s:={ s with heap:=h2,toks:=_ }) X hns (hna _ (by decide)) (attrs_free _ (by decide)) m0 rfl rfl (ev_name I2 m2 rfl rfl rfl) (fun v3 h3 tk3 p3 I3=>?_) rfl (.cons _ _ .nil) (by decide))
  refine wpAny_execs_cons (ini_attr (s:={ s with heap:=h3,toks:=_ }) X hns (hna _ (by decide)) (attrs_free _ (by decide)) m0 rfl rfl (ev_name I3 m3 rfl rfl rfl) (fun v4 h4 tk4 p4 I4=>?_) rfl (.cons _ _ (.cons _ _ .nil)) (by decide))
  obtain ⟨mA,J,V,W⟩:∃ mA,Ini C s0 L e m (some dx) mA h4∧(mA "code" = some (.int 1 t1)∧mA "value" = some (.str t t2)∧mA "errorcode" = some vec)∧Within mA ["errorcode","value","code"] :=
    ⟨_,I4,by subst p3 p4;exact ⟨rfl,rfl,rfl⟩,.cons _ _ (.cons _ _ (.cons _ _ .nil))⟩
  clear I0 I1 I2 I3 I4 p3 p4
  refine wpAny_execs_cons (ini_next (s:={ s with heap:=h4,toks:=_ }) X hns (hna _ (by decide)) (attrs_free _ (by decide)) m0 rfl rfl V (by decide) (ev_name J m4 rfl rfl rfl) rfl W (by decide) fun h5 tk5 mA J V W=>?_)
  refine wpAny_execs_cons (ini_next (s:={ s with heap:=h5,toks:=_ }) X hns (hna _ (by decide)) (attrs_free _ (by decide)) m0 rfl rfl V (by decide) (ev_name J m5 rfl rfl rfl) rfl W (by decide) fun h6 tk6 mA J V W=>?_)
  refine wpAny_execs_cons (ini_next (s:={ s with heap:=h6,toks:=_ }) X hns (hna _ (by decide)) (attrs_free _ (by decide)) m0 rfl rfl V (by decide) (ev_const J (.inl ⟨_,rfl⟩)) rfl W (by decide) fun h7 tk7 mA J V W=>?_)
  refine wpAny_execs_cons (ini_next (s:={ s with heap:=h7,toks:=_ }) X hns (hna _ (by decide)) (attrs_free _ (by decide)) m0 rfl rfl V (by decide) (ev_const J (.inr (.inr ⟨_,rfl⟩))) rfl W (by decide) fun h8 tk8 mA J V W=>?_)
  refine wpAny_execs_cons (ini_next (s:={ s with heap:=h8,toks:=_ }) X hns (hna _ (by decide)) (attrs_free _ (by decide)) m0 rfl rfl V (by decide) (ev_const J (.inr (.inl ⟨_,rfl⟩))) rfl W (by decide) fun h9 tk9 mA J V W=>?_)
  refine wpAny_execs_cons (ini_next (s:={ s with heap:=h9,toks:=_ }) X hns (hna _ (by decide)) (attrs_free _ (by decide)) m0 rfl rfl V (by decide) (ev_list J) rfl W (by decide) fun h10 tk10 mA J V W=>?_)
  exact wpAny_execs_nil (post h10 tk10 mA dx J V)
theorem init_call {fI e:Addr} {dV cdv vec:Value} {t1 t2:Tok} {t:Str} {s:Shared} {tt:Addr} {Q:Value→Shared→Prop} {E:Value→Shared→Prop} (G:Glb C) (X:ExcAt C N mN k0 k1 k2 k3 k5) (hns:mN "__setattr__" = none)
    (hna:∀ n ∈ attrs,mN n = none) (hI:InitAt C fI dV cdv) (hg:C.mg "Exception" = none) (hst:C.base.StaysIn s.heap) (hsz:C.base.objs.size ≤ s.heap.objs.size) (hroom:A.depth < recursionLimit)
    (he:s.heap.get? e = some { cls:=.ref C.exc,data:=.fields #[.ref tt,.none,.none,.none,.bool false,.none] }) (hne:C.base.get? e = none) (hec:Rd s.heap vec (.tuple [.str "NONE"]))
    (post:∀ h' tk,C.base.StaysIn h'→Up s.heap h'→Ex C e t none h'→Q .none { s with heap:=h',toks:=tk }) :
    wpAny C.M A (call (.ref fI) [.ref e,.int 1 t1,.str t t2,vec]) Q E s:=by
  obtain ⟨⟨fo,kV,doc,pm,an,ct,hfo,hfc,hfd⟩,hcd,T,oT,a,b,c,d,e5,n,rfl,hT,hTd⟩:=hI
  refine wpAny_call (codeAny_call_def (fd:=fnOf "__init__" "Raised.__init__" (paramsOf initStm) (bodyOf initStm) (scopeOf initStm) (.ref T) kV doc pm an cdv ct) (body:=bodyOf initStm)
    (binds:=[("self",.ref e),("code",.int 1 t1),("value",.str t t2),("errorcode",vec),("level",.int b c),("ret",.int d e5)]) hroom (hst _ _ hfo) hfd (G.nolimit.keeps hst) (hcd.keeps hst) rfl
    (BindsTo.of_defaults rfl (hst _ _ hT) hTd rfl rfl) init_cell (locs rfl) (fun h₀ hns₀ hk₀=>?_) rfl rfl rfl)
  have I0:Ini C s.heap s.heap.objs.size e _ none (fun _=>none) h₀ :=
    ⟨fun b o q=>hk₀ b o (hst b o q),.of_keeps hk₀,hns₀,hsz,Nat.le_refl _,hne,⟨_,_,tt,hk₀ _ _ he,rfl,rfl,rfl,rfl,rfl⟩,fun _=>rfl⟩
  refine init_body (s:={ s with heap:=h₀,toks:=_ }) G X hns hna hg rfl rfl rfl rfl rfl rfl I0 fun h10 tk10 mA dx I10 V=>?_
  obtain ⟨o,vs,t0,q1,q2,q3,q4,q5,q6⟩:=I10.obj
  obtain ⟨_,_,_,_,q7⟩:=I10.dict
  exact post h10 tk10 I10.stays I10.up ⟨hne,o,vs,dx,_,q1,q2,q3,q5,q6,q7.ns,⟨t1,V.1⟩,⟨t2,V.2.1⟩,_,V.2.2,hec.up I10.up⟩
end
end Mine
end
section
set_option tactic.hygienic false
open PySem PySem.W PyProof.Rows PySem.Spec PySem.Calls
namespace Mine
structure Exf (C:Cx):Prop where
  cls:∃ N mN k0 k1 k2 k3 k5 fI dV cdv,ExcAt C N mN k0 k1 k2 k3 k5∧mN "__setattr__" = none∧(∀ n ∈ attrs,mN n = none)∧mN "__init__" = some (.ref fI)∧InitAt C fI dV cdv∧mN "__getattribute__" = none∧mN "__getattr__" = none
  raised:C.mg "Raised" = some (.ref C.exc)
  noExc:C.mg "Exception" = none
  error:∃ fE T cdv oT u n,FnAt C "error" fE (paramsOf (stm 2)) (bodyOf (stm 2)) (scopeOf (stm 2)) (.ref T) cdv∧C.base.get? T = some oT∧oT.data = .seq #[u] n∧Rd C.base u (.tuple [.str "NONE"])
section
variable {C:Cx} {A:Around}
theorem error_cell:∀ x ∈ (scopeOf (stm 2)).names,x.2 ≠ .cell:=by decide
theorem under_depth (A:Around) (c:Code):(A.under c).depth = A.depth + c.weight:=rfl
theorem creation_weight (C:Addr) (rest:List Value):(Code.builtin "type.__call__" ⟨.ref C :: rest,[]⟩).weight ≤ 1:=Nat.le_of_ble_eq_true rfl
theorem error_make {N:Addr} {mN:Str→Option Value} {k0 k1 k2 k3 k5:Option Value} {fI:Addr} {dV cdI u:Value} {t:Str} {tk t1:Tok} {s:Shared} {L:Addr} {m:Str→Option Value} {Q:Value→Shared→Prop} {E:Value→Shared→Prop} (G:Glb C) (XA:ExcAt C N mN k0 k1 k2 k3 k5) (hns:mN "__setattr__" = none) (hna:∀ n ∈ attrs,mN n = none) (hi:mN "__init__" = some (.ref fI)) (hI:InitAt C fI dV cdI) (noExc:C.mg "Exception" = none)
    (F:Fr C.base L s.heap m) (hroom:A.depth + 1 < recursionLimit) (hh:A.handled = none) (hu:Rd s.heap u (.tuple [.str "NONE"]))
    (post:∀ x h' tk,Ext C.base s.heap h'→Ex C x t none h'→Q (.ref x) { s with heap:=h',toks:=tk }) :
    wpAny C.M A (call (.ref C.exc) [.int 1 t1,.str t tk,u]) Q E s:=by
  have st0:=F.2
  have hC:=st0 _ _ XA.cls
  obtain ⟨foI,_,_,_,_,_,hfoI,hfoc,_⟩:=hI.at_
  refine wpAny_call_exc_init (rest:=[.int 1 _,.str t tk,u]) PySem.F.excBase_Exception hC (XA.ns.keeps st0) hi (st0 _ _ hfoI) hfoc (fun h1 e hm=>?_) (by show 3 ≤ sizeLine;rw [sizeLine_eq];exact Nat.le_of_ble_eq_true rfl)
  obtain ⟨tt,ht,_,_⟩:=hm.there
  have st1:C.base.StaysIn h1:=fun b o q=>hm.keeps b o (st0 b o q)
  have nb:C.base.get? e = none:=by
    cases q:C.base.get? e with
    | none=>rfl
    | some o=>have:=st0 _ _ q;rw [hm.new] at this;cases this
  refine init_call (s:={ s with heap:=h1,toks:=_ }) G XA hns hna hI noExc st1 ?_ ?_ ht nb ((hu.up (.of_keeps hm.keeps))) fun h2 tk2 a1 a2 a3=>⟨rfl,post e h2 tk2 ⟨a1,(Up.of_keeps hm.keeps).trans a2⟩ a3⟩
  · exact Nat.le_of_lt (Nat.lt_of_le_of_lt F.3 (F.1.keeps hm.keeps).lt)
  · exact Nat.lt_of_le_of_lt (Nat.add_le_add_left (creation_weight _ _) _) hroom
theorem error_body {L fE:Addr} {cdv u:Value} {t:Str} {tk:Tok} {m:Str→Option Value} {s:Shared} {Q:Flow→Shared→Prop} {E:Value→Shared→Prop} (G:Glb C) (X:Exf C) (F:Fr C.base L s.heap m) (mt:m "text" = some (.str t tk)) (mu:m "errorcode" = some u)
    (hroom:A.depth + 1 < recursionLimit) (hh:A.handled = none) (hu:Rd s.heap u (.tuple [.str "NONE"])) (post:∀ x h' tk,Ext C.base s.heap h'→Ex C x t none h'→Q (.ret (.ref x)) { s with heap:=h',toks:=tk }) :
    wpAny C.M A (execs (bodyOf (stm 2)) (envOf "error" (scopeOf (stm 2)) L fE cdv)) Q E s:=by
  obtain ⟨N,mN,k0,k1,k2,k3,k5,fI,dV,cdI,XA,hns,hna,hi,hI,_⟩:=X.cls
  refine wpAny_execs_cons (wpAny_Return_some (Call_ ?_ rfl))
  refine Name_function_global rfl rfl (loadGlobal_global (env:=envOf "error" (scopeOf (stm 2)) L fE cdv) (G.g.keeps F.2) X.raised ?_) rfl
  unfold callWith
  refine wpAny_bind (wpAny_holding (evalArgs_plain ?_))
  refine args_cons (wpAny_Constant_int ?_) rfl
  refine args_cons (ld (s:={ s with toks:=_ }) F mt ?_ rfl rfl rfl) rfl
  refine args_cons (ld (s:={ s with toks:=_ }) F mu ?_ rfl rfl rfl) rfl
  refine args_nil (wpAny_bind (wpAny_standAt ?_))
  refine wpAny_bind (wpAny_keeperOf_exc (F.2 _ _ XA.cls) ?_)
  refine wpAny_bind (error_make (s:={ s with toks:=_ }) G XA hns hna hi hI X.noExc F hroom hh hu fun x h' tk a b=>?_)
  exact wpAny_bind (wpAny_holding (wpAny_point (wpAny_pure (post x h' tk a b))))
theorem error_call {fE:Addr} {t:Str} {tk:Tok} {s:Shared} {Q:Value→Shared→Prop} {E:Value→Shared→Prop} (G:Glb C) (X:Exf C) (hfE:C.mg "error" = some (.ref fE)) (hst:C.base.StaysIn s.heap) (hsz:C.base.objs.size ≤ s.heap.objs.size)
    (hroom:A.depth + 2 < recursionLimit) (hh:A.handled = none) (post:∀ x h' tk,Ext C.base s.heap h'→Ex C x t none h'→Q (.ref x) { s with heap:=h',toks:=tk }) :
    wpAny C.M A (call (.ref fE) [.str t tk]) Q E s:=by
  obtain ⟨fE',T,cdv,oT,u,n,hE,hT,hTd,hu⟩:=X.error
  obtain ⟨hn,⟨fo,kV,doc,pm,an,ct,hfo,hfd⟩,hcd⟩:=hE
  rw [hn] at hfE;cases hfE
  refine wpAny_call (codeAny_call_def (fd:=fnOf "error" "error" (paramsOf (stm 2)) (bodyOf (stm 2)) (scopeOf (stm 2)) (.ref T) kV doc pm an cdv ct) (body:=bodyOf (stm 2))
    (binds:=[("text",.str t tk),("errorcode",u)]) (by lia) (hst _ _ hfo) hfd (G.nolimit.keeps hst) (hcd.keeps hst) rfl
    (BindsTo.of_defaults rfl (hst _ _ hT) hTd rfl rfl) error_cell (locs rfl) (fun h₀ hns₀ hk₀=>?_) rfl rfl rfl)
  have st0:C.base.StaysIn h₀:=fun b o q=>hk₀ b o (hst b o q)
  have F:Fr C.base s.heap.objs.size h₀ _:=⟨hns₀,st0,hsz⟩
  exact error_body (s:={ s with heap:=h₀,toks:=_ }) (A:=_) G X F rfl rfl hroom hh (hu.up (.of_keeps st0)) fun x h' tk a b=>post x h' tk ⟨a.1,(Up.of_keeps hk₀).trans a.2⟩ b
end
end Mine
end
section
set_option tactic.hygienic false
open PySem PySem.W PyProof.Rows PySem.Spec PySem.Calls
namespace Mine
section
variable {C:Cx} {A:Around} {S:Sh}
theorem raise_made {N:Addr} {mN:Str→Option Value} {k0 k1 k2 k3 k5:Option Value} {env:Env} {s:Shared} {x:Sem Value} {Q:Flow→Shared→Prop} {E:Value→Shared→Prop} (XA:ExcAt C N mN k0 k1 k2 k3 k5) (hh:A.handled = none)
    (h:wpAny C.M A x (fun v s₁=>∃ e oe vs,v = .ref e∧C.base.StaysIn s₁.heap∧s₁.heap.get? e = some oe∧oe.cls = .ref C.exc∧oe.data = .fields vs∧vs[1]? = some .none∧E (.ref e) s₁) E s) :
    wpAny C.M A (raiseStmt env (some x) none) Q E s:=by
  have hcB:∀ c:Addr,(Value.ref c :: EB).contains (.type "BaseException") = true:=fun c=>by rw [List.contains_cons,show EB.contains (.type "BaseException") = true from by decide,Bool.or_true]
  unfold raiseStmt
  refine wpAny_bind (wpAny_mono h (fun v s₁ h₁=>?_) fun _ _ x=>x)
  obtain ⟨e,oe,vs,rfl,hst,he,hc,hd,h1,hE⟩:=h₁
  obtain ⟨hp,g,d,tk,os⟩:=s₁
  have hC:hp.get? C.exc = some (excObj C N k0 k1 k2 k3 k5):=hst _ _ XA.cls
  obtain ⟨oc,od,odt,osl⟩:=oe
  dsimp only at hc hd
  subst hc hd
  have hf:∀ Q:Value→Shared→Prop,Q .none ⟨hp,g,d,tk,os⟩→wpAny C.M A (field (.ref e) 1) Q E ⟨hp,g,d,tk,os⟩:=fun Q q=>wpAny_field he rfl h1 q
  repeat (first | with_reducible refine hf _ ?_ | with_reducible refine wpAny_loadPart_at he ?_ | with_reducible refine wpAny_loadPart_at hC ?_ | (with_reducible refine wpAny_isSubtype_exc hC ?_;rw [hcB]) | wp_step)
  exact wpAny_raiseNew_none hh hE
theorem SX.raise (G:Glb C) (XF:Exf C) {t:Str} {k:Nat} {p p' p'' p3:Pos} (hd:3 ≤ S.d) (hk:S.scope.kind = .function) (hl:S.scope.names.lookup ("error":Str) = some .globalImplicit)
    (he:∀ env,starEach [.Constant (.str t) k p''] env = [(false,eval (.Constant (.str t) k p'') env)]:=by intro _;rfl)
    (hc:∀ env,eval (.Call (.Name "error" p) [.Constant (.str t) k p''] [] p') env = (do callWith p' (← eval (.Name "error" p) env) [] (backTo p' (starEach [.Constant (.str t) k p''] env)) (backToKw p' (keywordEach [] env))):=by intro _;rfl)
    (hev:∀ env,evalOpt (some (.Call (.Name "error" p) [.Constant (.str t) k p''] [] p')) env = some (eval (.Call (.Name "error" p) [.Constant (.str t) k p''] [] p') env):=by intro _;rfl)
    (hev':∀ env,evalOpt none env = none:=by intro _;rfl) :
    SX C S (.Raise (some (.Call (.Name "error" p) [.Constant (.str t) k p''] [] p')) none p3) (fun σ=>some (σ,.exc t)):=fun X hX σ s Q E o ho I hE post=>by
  cases ho
  obtain ⟨N,mN,k0,k1,k2,k3,k5,fI,dV,cdI,XA,_⟩:=XF.cls
  obtain ⟨fE,_,_,_,_,_,hfE,_⟩:=XF.error
  obtain ⟨fo,kV,doc,pm,an,ct,hfo,hfd⟩:=hfE.at_
  rw [arm_exec_Raise,hev,hev']
  refine wpAny_bind (wpAny_standAt (raise_made XA hX.room.hd (wpAny_bind (Call_ ?_ (hc _)))))
  refine name_glob G I.stays hfE.name (by rw [hX.sc];exact hk) (by rw [hX.sc];exact hl) rfl ?_
  refine callWith_def hfd (args_cons (Constant_str (args_nil ?_)) (he _)) (he _)
  refine ⟨I.stays _ _ hfo,?_⟩
  refine error_call G XF hfE.name I.stays I.size (by have:=hX.room.dep;lia) hX.room.hd fun x h' tk x1 e=>?_
  refine wpAny_bind (wpAny_standAt (wpAny_pure ?_))
  obtain ⟨oe,vs,dx,me,h1,h2,h3,h4,_⟩:=id e.at_
  exact ⟨x,oe,vs,rfl,x1.1,h1,h2,h3,h4,post x h' tk (I.ext x1) (.inl e)⟩
end
end Mine
end
section
open PySem PySem.W PyProof.Rows PySem.Spec PySem.Calls
namespace Mine
section
open Builtin Builtin.ObjectAttr
variable {prog:Program} {w:World} {A:Around} {E:Value→Shared→Prop} {h:Heap} {g:Array GenState} {d:Drawn} {t:Nat} {os:OsState} {a:Addr} {o:Obj} {vs:Array Value}
  {nm q:Str} {C N:Addr} {bs bm bmB:List Value} {sn:List Str} {sub:List Value} {ab:Bool} {col:Option Bool} {dd:Option Addr} {k0 k1 k2 k3 k5:Option Value} {B newId:String} {mN me:Str→Option Value}
  {name:Str} {v:Value} {dx:Addr}
theorem exc_entry {tk:Tok} {Q:Fin→Shared→Prop} (FB:ExcAttrBase B bm) (hC:h.get? C = some (excClassObj nm q C N bs bm true sn sub ab col dd k0 k1 k2 k3 k5 newId)) (hN:h.Ns N mN)
    (hna:mN name = none) (hB:typeLookup (.type B) name = pure none) (hx:h.get? a = some o) (hc:o.cls = .ref C) (hd:o.data = .fields vs) (hdx:o.dict = some dx) (hns:h.Ns dx me) (hv:me name = some v)
    (hq:Q (.done (.ret v)) ⟨h,g,d,t,os⟩) :
    wpAny (model prog w) A (Builtin.«object.__getattribute__» ⟨[.ref a,.str name tk],[]⟩) Q E ⟨h,g,d,t,os⟩:=by
  unfold Builtin.«object.__getattribute__»
  repeat (first | (with_reducible refine wpAny_loadPart_at hx ?_;rw [hc]) | (with_reducible refine wpAny_typeLookup_exc hC hN FB.mro hB ?_;rw [hna]) | wp_step)
  split
  · rename_i c hcd
    rw [hd] at hcd;cases hcd
  unfold instanceDict
  repeat (first | (with_reducible refine wpAny_loadPart_at hx ?_;rw [hc]) | with_reducible refine wpAny_loadPart_at hC ?_ | wp_step)
  rw [hdx]
  repeat (first | (with_reducible refine wpAny_nsGet hns ?_;rw [hv]) | wp_step)
  exact hq
theorem exc_check {M:Model} {nameV:Value} {Q:Unit→Shared→Prop} (FB:ExcAttrBase B bm) (hC:h.get? C = some (excClassObj nm q C N bs bm true sn sub ab col dd k0 k1 k2 k3 k5 newId))
    (hx:h.get? a = some o) (hc:o.cls = .ref C) (hq:Q () ⟨h,g,d,t,os⟩):wpAny M A (checkBuiltinCall "BaseException.__getattribute__" ⟨[.ref a,nameV],[]⟩) Q E ⟨h,g,d,t,os⟩:=by
  have hk:builtinKind "BaseException.__getattribute__" = some .slot:=by decide +kernel
  have hsplit:splitId "BaseException.__getattribute__" = some ("BaseException","__getattribute__"):=by decide +kernel
  have hcB:(Value.ref C :: bm).contains (.type "BaseException") = true:=by rw [List.contains_cons,FB.hasBase,Bool.or_true]
  have ha:=F.args_bexc_ga (.ref a) nameV
  simp only [checkBuiltinCall,hk,hsplit]
  refine wpAny_bind ?_
  unfold isInstance
  repeat (first | (with_reducible refine wpAny_loadPart_at hx ?_;rw [hc]) | (with_reducible refine wpAny_isSubtype_exc hC ?_;rw [hcB]) | wp_step)
  exact hq
theorem exc_call {tk:Tok} {R:Result→Shared→Prop} (FB:ExcAttrBase B bm) (hC:h.get? C = some (excClassObj nm q C N bs bm true sn sub ab col dd k0 k1 k2 k3 k5 newId)) (hN:h.Ns N mN)
    (hna:mN name = none) (hB:typeLookup (.type B) name = pure none) (hx:h.get? a = some o) (hc:o.cls = .ref C) (hd:o.data = .fields vs) (hdx:o.dict = some dx) (hns:h.Ns dx me) (hv:me name = some v)
    (hq:R (.ok (.ret v)) ⟨h,g,d,t,os⟩) :
    codeAny (model prog w) A (.call (.builtin "BaseException.__getattribute__") ⟨[.ref a,.str name tk],[]⟩) R ⟨h,g,d,t,os⟩ :=
  codeAny_call_builtin FB.ga.plain F.entry_bexc_ga (exc_check FB hC hx hc (exc_entry FB hC hN hna hB hx hc hd hdx hns hv hq))
theorem exc_by {tk:Tok} {fill expr:Bool} {Q:Value→Shared→Prop} (FB:ExcAttrBase B bm) (hC:h.get? C = some (excClassObj nm q C N bs bm true sn sub ab col dd k0 k1 k2 k3 k5 newId)) (hN:h.Ns N mN)
    (hga:mN "__getattribute__" = none) (hgb:mN "__getattr__" = none)
    (hna:mN name = none) (hB:typeLookup (.type B) name = pure none) (hx:h.get? a = some o) (hc:o.cls = .ref C) (hd:o.data = .fields vs) (hdx:o.dict = some dx) (hns:h.Ns dx me) (hv:me name = some v)
    (hh:∀ i,v ≠ .builtin i) (hq:Q v ⟨h,g,d,t,os⟩) :
    wpAny (model prog w) A (getAttrBy (.ref a) (.str name tk) fill expr) Q E ⟨h,g,d,t,os⟩:=by
  have f3:=FB.ga.bind (.ref a)
  have hx0:(expr && onTheHeap (Value.builtin "BaseException.__getattribute__")) = false:=by cases expr <;> rfl
  have hx2:(Value.builtin "BaseException.__getattribute__" == Value.builtin "object.__getattribute__") = false:=by decide +kernel
  have hx1:(onTheHeap (Value.ref C) && Value.builtin "BaseException.__getattribute__" == Value.builtin "object.__getattribute__") = false:=by rw [hx2];rfl
  repeat (any_goals (first | assumption | (with_reducible refine wpAny_loadPart_at hx ?_;rw [hc]) | (with_reducible refine wpAny_typeLookup_exc hC hN FB.mro FB.ga.lookup ?_;rw [hga]) | (with_reducible refine wpAny_typeLookup_exc hC hN FB.mro FB.noGetattr ?_;rw [hgb]) | wp_step))
  refine exc_call FB hC hN hna hB hx hc hd hdx hns hv ?_
  repeat (any_goals (first | assumption | wp_step))
  cases v <;> first | exact absurd rfl (hh _) | exact wpAny_pure hq
theorem exc_attr {expr:Bool} {Q:Value→Shared→Prop} (FB:ExcAttrBase B bm) (hC:h.get? C = some (excClassObj nm q C N bs bm true sn sub ab col dd k0 k1 k2 k3 k5 newId)) (hN:h.Ns N mN)
    (hga:mN "__getattribute__" = none) (hgb:mN "__getattr__" = none)
    (hna:mN name = none) (hB:typeLookup (.type B) name = pure none) (hx:h.get? a = some o) (hc:o.cls = .ref C) (hd:o.data = .fields vs) (hdx:o.dict = some dx) (hns:h.Ns dx me) (hv:me name = some v)
    (hh:∀ i,v ≠ .builtin i) (hq:Q v ⟨h,g,d,t + 1,os⟩) :
    wpAny (model prog w) A (getAttr (.ref a) name expr) Q E ⟨h,g,d,t,os⟩:=by
  unfold getAttr
  repeat (any_goals (first | assumption | with_reducible apply exc_by FB hC hN hga hgb hna hB hx hc hd hdx hns hv hh | wp_step))
end
end Mine
end
section
set_option tactic.hygienic false
open PySem PySem.W PyProof.Rows PySem.Spec PySem.Calls
namespace Mine
section
variable {C:Cx} {S:Sh}
theorem Ex.but {x:Addr} {t:Str} {fl:Option Value} {h h':Heap} {l:Addr} (e:Ex C x t fl h) (hl:∃ o es ep,h.get? l = some o∧o.data = .dict es ep) (hd:h.nsMap l "code" = none)
    (k:∀ b o,b ≠ l→h.get? b = some o→h'.get? b = some o):Ex C x t fl h':=by
  obtain ⟨ol,es,ep,l1,l2⟩:=hl
  have nf:∀ {b:Addr} {o:Obj} {vs:Array Value},h.get? b = some o→o.data = .fields vs→b ≠ l:=fun h1 h2 q=>by
    subst q;rw [l1] at h1;cases h1;rw [l2] at h2;cases h2
  obtain ⟨oe,vs,dx,me,h1,h2,h3,h4,h5,h6,⟨tk,h7⟩,h8,v,h9,h10⟩:=e.at_
  have hdx:dx ≠ l:=fun q=>by
    subst q
    rw [← h6.eq_nsMap,h7] at hd
    cases hd
  refine ⟨e.new,oe,vs,dx,me,k _ _ (nf h1 h3) h1,h2,h3,?_,h5,?_,⟨tk,h7⟩,h8,v,h9,h10.but (fun o xs n q1 q2=>by rw [l1] at q1;cases q1;rw [l2] at q2;cases q2) k⟩
  · cases fl with
    | none=>exact h4
    | some f =>
      obtain ⟨T,oT,ts,q1,q2,q3,q4,q5,q6⟩:=h4
      exact ⟨T,oT,ts,q1,q2,q3,k _ _ (nf q4 q5) q4,q5,q6⟩
  · obtain ⟨o,es',ep',q1,q2⟩:=h6
    exact ⟨o,es',ep',k _ _ hdx q1,q2⟩
theorem Ex.keeps {x:Addr} {t:Str} {fl:Option Value} {h h':Heap} (e:Ex C x t fl h) (k:∀ b o,h.get? b = some o→h'.get? b = some o):Ex C x t fl h' :=
  e.rest (.of_keeps k) fun oe vs h1 h2=>by
    refine ⟨oe,vs,k _ _ h1,rfl,rfl,h2,?_⟩
    obtain ⟨oe',vs',h3,h4,h5⟩:=e.obj
    rw [h1] at h3;cases h3
    rw [h2] at h4;cases h4
    cases fl with
    | none=>exact h5
    | some f =>
      obtain ⟨T,oT,ts,q1,q2,q3,q4,q5⟩:=h5
      exact ⟨T,oT,ts,q1,q2,q3,k _ _ q4,q5⟩
structure Hs (C:Cx) (X:Fx) (σ:Store) (n:Str) (x:Addr) (t:Str) (h:Heap):Prop where
  inv:FInv C X σ h
  ex:Ex C x t (some .none) h
  nm:∃ m,Fr C.base X.L h m∧m n = some (.ref x)
theorem Hs.keeps {X:Fx} {σ:Store} {n:Str} {x:Addr} {t:Str} {h h':Heap} (H:Hs C X σ n x t h) (k:∀ b o,h.get? b = some o→h'.get? b = some o):Hs C X σ n x t h':=by
  obtain ⟨m,F,e⟩:=H.nm
  have x1:Ext C.base h h':=.of_keeps H.inv.stays k
  exact ⟨H.inv.ext x1,H.ex.keeps k,m,F.of_stays x1.1 x1.2.slots,e⟩
theorem hs_bind {X:Fx} (hX:Fits S X) {A:Around} {σ:Store} {s:Shared} {n:Str} {x:Addr} {t:Str} {Q:Unit→Shared→Prop} {E:Value→Shared→Prop} (I:FInv C X σ s.heap) (e:Ex C x t (some .none) s.heap) (hn:n ∉ S.names) (hl:S.scope.names.lookup n = some .local) (hc:n ≠ "code")
    (h:∀ h' tk,Hs C X σ n x t h'→Q () { s with heap:=h',toks:=tk }):wpAny C.M A (storeName X.env n (.ref x)) Q E s:=by
  obtain ⟨m,F,hv,ho⟩:=id I.loc
  have hk:X.scope.kind = .function:=I.kind
  have hl:X.env.kindOf n = some .local:=by show X.scope.names.lookup n = _;rw [hX.sc];exact hl
  have hp:(X.env.scope.kind == .class || (X.env.scope.kind == .module && X.env.locals != X.env.globals)) = false:=by
    show (X.scope.kind == .class || (X.scope.kind == .module && _)) = false
    rw [hk];rfl
  refine wpAny_storeName_local hl F.ns (fun h' hn' hsb=>h h' _ ?_) hp
  have F':=F.set hn' hsb
  obtain ⟨oL,es,ep,hL,hLd,_⟩:=F.ns
  have kb:∀ b o,b ≠ X.L→s.heap.get? b = some o→h'.get? b = some o:=fun b o hb e=>(hsb.2 b hb).trans e
  have nl:∀ o xs n,s.heap.get? X.L = some o→o.data ≠ .seq xs n:=fun o xs n e q=>by
    rw [hL] at e;cases e;rw [hLd] at q;cases q
  have nf:∀ o vs,s.heap.get? X.L = some o→o.data ≠ .fields vs:=fun o vs e q=>by
    rw [hL] at e;cases e;rw [hLd] at q;cases q
  have hne:∀ (i:Nat) (y:Str),X.names[i]? = some y→y ≠ n:=fun i y e q=>by
    subst q
    rw [hX.nm] at e
    exact hn (List.mem_of_getElem? e)
  refine ⟨?_,e.but ⟨oL,es,ep,hL,hLd⟩ I.dom kb,_,F',if_pos rfl⟩
  exact
    { stays:=F'.keep
      up:=I.up.but I.lnew kb
      kept:=I.kept_but nf kb
      gframes:=I.gframes
      kind:=I.kind
      lnew:=I.lnew
      gsz:=I.gsz
      dom:=by
        rw [← F'.ns.eq_nsMap]
        show (if "code" = n then some _ else m "code") = none
        rw [if_neg (fun q=>hc q.symm),F.ns.eq_nsMap]
        exact I.dom
      loc:=by
        refine ⟨_,F',fun j y d' e1 e2=>?_,fun j ds e=>?_⟩
        · obtain ⟨v',e4,r'⟩:=hv j y d' e1 e2
          refine ⟨v',?_,r'.but nl kb⟩
          show (if y = n then _ else m y) = some v'
          rw [if_neg (hne j y e1)]
          exact e4
        · obtain ⟨fr,lds,y,a,ws,e1,e2,hl',hr',e3,e4⟩:=ho j ds e
          refine ⟨fr,lds,y,a,ws,e1,?_,?_,hr'.but nl kb,e3,e4⟩
          · show (if y = n then _ else m y) = _
            rw [if_neg (hne j y e1)]
            exact e2
          · obtain ⟨o,h1,h2,hdn,n',h3⟩:=hl'
            exact ⟨o,kb _ _ (fun q=>nl o _ _ (q ▸ h1) h3) h1,h2,hdn,n',h3⟩ }
theorem hs_attr (XF:Exf C) {X:Fx} (hX:Fits S X) {A:Around} {σ:Store} {s:Shared} {n:Str} {x:Addr} {t:Str} {name:Str} {p p':Pos} {Q E:Value→Shared→Prop} (H:Hs C X σ n x t s.heap) (hl:S.scope.names.lookup n = some .local) (hd:(n == ("__debug__":Str)) = false)
    {P:Heap→Value→Prop} (hP:∀ oe vs dx me,s.heap.get? x = some oe→oe.dict = some dx→s.heap.Ns dx me→oe.data = .fields vs→(∃ tk,me "code" = some (.int 1 tk))→(∃ tk,me "value" = some (.str t tk))→(∃ v,me "errorcode" = some v∧Rd s.heap v (.tuple [.str "NONE"]))→∃ v,me name = some v∧(∀ i,v ≠ .builtin i)∧P s.heap v)
    (hn:name ∈ attrs) (h:∀ v tk,P s.heap v→Q v { s with toks:=tk }):wpAny C.M A (eval (.Attribute (.Name n p) name p') X.env) Q E s:=by
  obtain ⟨m,F,e⟩:=H.nm
  refine Attribute_name (ld F e ?_ H.inv.kind (by show X.scope.names.lookup n = _;rw [hX.sc];exact hl) hd)
  obtain ⟨N,mN,k0,k1,k2,k3,k5,fI,dV,cdI,XA,hns,hna,hi,hI,hga,hgb⟩:=XF.cls
  obtain ⟨oe,vs,dx,me,h1,h2,h3,_,h5,h6,h7,h8,h9⟩:=H.ex.at_
  obtain ⟨v,hv,hh,hp⟩:=hP oe vs dx me h1 h5 h6 h3 h7 h8 h9
  obtain ⟨hp',g,d,tk,os⟩:=s
  exact exc_attr PySem.F.attrBase_Exception (H.inv.stays _ _ XA.cls) (XA.ns.keeps H.inv.stays) hga hgb (hna name hn) (attrs_free name hn) h1 h2 h3 h5 h6 hv hh (h v _ hp)
end
end Mine
end
section
open PySem PySem.W PyProof.Rows PySem.Spec PySem.Calls
namespace Mine
section
variable {C:Cx} {S:Sh}
noncomputable def faultD (t:Str):PyData:=.tuple [.int 1,.str t,.tuple [.str "NONE"]]
noncomputable def SQ (C:Cx) (S:Sh) (e:Expr) (f:Store→Option PyData):Prop :=
  ∀ X,Fits S X→∀ (A:Around) σ s Q E d,f σ = some d→FInv C X σ s.heap→(∀ v h' tk,(∀ b o,s.heap.get? b = some o→h'.get? b = some o)→Rd h' v d→Q v { s with heap:=h',toks:=tk })→wpAny C.M A (eval e X.env) Q E s
theorem SQ.unit {k:Nat} {p:Pos}:SQ C S (.Tuple [] k p) (fun _=>some (.tuple [])):=fun X hX A σ s Q E d hd I post=>by
  cases hd
  refine Tuple_ (args_nil ?_)
  refine wpAny_newObj_type (post _ _ s.toks (fun b o e=>Heap.get?_push_of_some _ e) (.tuple_at (Heap.get?_push_size _ rfl) rfl rfl .nil)) ?_
  show 0 ≤ sizeLine
  exact Nat.zero_le _
theorem SQ.name {x:Str} {p:Pos} {i:Nat} (hi:S.names[i]? = some x) (hl:S.scope.names.lookup x = some .local) (hn:S.names.Nodup) (hd:(x == ("__debug__":Str)) = false) :
    SQ C S (.Name x p) (fun σ=>match (frz σ).vs[i]? with | some (some d)=>some d | _=>none):=fun X hX A σ s Q E d hd' I post=>by
  have I':=I.frz (by rw [hX.nm];exact hn)
  have e:(frz σ).vs[i]? = some (some d):=by
    dsimp only at hd'
    split at hd'
    · rename_i d' q;cases hd';exact q
    · cases hd'
  obtain ⟨m,F,hv,_⟩:=I'.loc
  obtain ⟨v,e2,r2⟩:=hv i x d (by rw [hX.nm];exact hi) e
  exact ld F e2 (post v s.heap s.toks (fun _ _ q=>q) r2) I.kind (by show X.scope.names.lookup x = _;rw [hX.sc];exact hl) hd
theorem StaysIn.same {X:Fx} {h h':Heap} {m:Str→Option Value} (F:Fr C.base X.L h m) (hs:Heap.SameBut X.L h h'):C.base.StaysIn h':=fun b o e =>
  (hs.2 b (Nat.ne_of_lt (Nat.lt_of_lt_of_le (Heap.lt_size e) F.above))).trans (F.keep b o e)
theorem hs_suite (XF:Exf C) {X:Fx} (hX:Fits S X) {A:Around} {σ:Store} {s:Shared} {n:Str} {x:Addr} {t:Str} {p1 p2 p3 p1' p2' p3' q1 q2 q3:Pos} {j1 j2:Nat} {Q:Flow→Shared→Prop} {E:Value→Shared→Prop} (H:Hs C X σ n x t s.heap)
    (hl:S.scope.names.lookup n = some .local) (hd:(n == ("__debug__":Str)) = false) {eX:Expr} {fx:Store→Option PyData} {dX:PyData} (hE:SQ C S eX fx) (hf:fx σ = some dX)
    (he:∀ env y,starEach [eX,y] env = (false,eval eX env) :: starEach [y] env:=by intro _ _;rfl)
    (h:∀ v h' tk m,Fr C.base X.L h' m→Up X.g h'→Rd h' v (.tuple [dX,faultD t])→Q (.ret v) { s with heap:=h',toks:=tk }) :
    wpAny C.M A (execs [.Return (some (.Tuple [eX,.Tuple [.Attribute (.Name n p1) "code" p1',.Attribute (.Name n p2) "value" p2',.Attribute (.Name n p3) "errorcode" p3'] j1 q1] j2 q2)) q3] X.env) Q E s:=by
  refine wpAny_execs_cons (wpAny_Return_some (Tuple_ ?_))
  refine args_cons (hE X hX A σ s _ E dX hf H.inv fun v1 h1 t1 k1 r1=>?_) (he _ _)
  have H1:=H.keeps k1
  refine args_cons (Tuple_ ?_) rfl
  refine args_cons (hs_attr XF (s:={ s with heap:=h1,toks:=t1 }) hX H1 hl hd (P:=fun h v=>Rd h v (.int 1)) (fun oe vs dx me _ _ _ _ a _ _=>let ⟨tk,e⟩:=a;⟨_,e,(fun i q=>by cases q),.int 1 tk⟩) (by decide) fun v2 t2 r2=>?_) rfl
  refine args_cons (hs_attr XF (s:={ s with heap:=h1,toks:=t2 }) hX H1 hl hd (P:=fun h v=>Rd h v (.str t)) (fun oe vs dx me _ _ _ _ _ a _=>let ⟨tk,e⟩:=a;⟨_,e,(fun i q=>by cases q),.str t tk⟩) (by decide) fun v3 t3 r3=>?_) rfl
  refine args_cons (hs_attr XF (s:={ s with heap:=h1,toks:=t3 }) hX H1 hl hd (P:=fun h v=>Rd h v (.tuple [.str "NONE"])) (fun oe vs dx me _ _ _ _ _ _ a=>let ⟨v,e,r⟩:=a;⟨v,e,(fun i q=>by subst q;cases r),r⟩) (by decide) fun v4 t4 r4=>?_) rfl
  refine args_nil ?_
  have x1:=Ext.push H1.inv.stays { cls:=.type "tuple",data:=.seq #[v2,v3,v4] }
  refine wpAny_newObj_type (args_nil ?_) (by show 3 ≤ sizeLine;rw [sizeLine_eq];lia)
  have x2:=Ext.push x1.1 { cls:=.type "tuple",data:=.seq #[v1,.ref h1.objs.size] }
  refine wpAny_newObj_type ?_ (by show 2 ≤ sizeLine;rw [sizeLine_eq];lia)
  have rI:Rd (h1.push { cls:=.type "tuple",data:=.seq #[v2,v3,v4] }) (.ref h1.objs.size) (faultD t):=.tuple_at (Heap.get?_push_size _ rfl) rfl rfl (vs:=[v2,v3,v4]) (.cons (r2.ext x1) (.cons (r3.ext x1) (.cons (r4.ext x1) .nil)))
  obtain ⟨m,F,_⟩:=H1.nm
  have x12:=x1.trans x2
  exact h _ _ t4 m (F.of_stays x12.1 x12.2.slots) (H1.inv.up.trans x12.2) (.tuple_at (Heap.get?_push_size _ rfl) rfl rfl (vs:=[v1,.ref h1.objs.size]) (.cons ((r1.ext x1).ext x2) (.cons (rI.ext x2) .nil)))
noncomputable def tryO (o:Option Out) (fx:Store→Option PyData):Option Out:=match o with
  | some (σ,.exc t)=>obind (fx σ) fun dX=>some (σ,.ret (.tuple [dX,faultD t]))
  | o=>o
@[simp] theorem tryO_none (fx:Store→Option PyData):tryO none fx = none:=rfl
@[simp] theorem tryO_nxt (σ:Store) (fx:Store→Option PyData):tryO (some (σ,.nxt)) fx = some (σ,.nxt):=rfl
@[simp] theorem tryO_ret (σ:Store) (d:PyData) (fx:Store→Option PyData):tryO (some (σ,.ret d)) fx = some (σ,.ret d):=rfl
@[simp] theorem tryO_exc (σ:Store) (t:Str) (fx:Store→Option PyData):tryO (some (σ,.exc t)) fx = obind (fx σ) fun dX=>some (σ,.ret (.tuple [dX,faultD t])):=rfl
theorem SX.try_ (G:Glb C) (XF:Exf C) {n:Str} {body:List Stmt} {p0 p1 p2 p3 p1' p2' p3' q1 q2 q3 q4 q5:Pos} {j1 j2:Nat} {f:Store→Option Out} (hb:SS C S body f)
    (hk:S.scope.kind = .function) (hR:S.scope.names.lookup ("Raised":Str) = some .globalImplicit) (hn:n ∉ S.names) (hl:S.scope.names.lookup n = some .local) (hd:(n == ("__debug__":Str)) = false) (hc:n ≠ "code")
    {eX:Expr} {fx:Store→Option PyData} (hE:SQ C S eX fx) (he:∀ env y,starEach [eX,y] env = (false,eval eX env) :: starEach [y] env:=by intro _ _;rfl) :
    SX C S (.Try body [.ExceptHandler (some (.Name "Raised" p0)) (some n) [.Return (some (.Tuple [eX,.Tuple [.Attribute (.Name n p1) "code" p1',.Attribute (.Name n p2) "value" p2',.Attribute (.Name n p3) "errorcode" p3'] j1 q1] j2 q2)) q3] q4] [] [] q5)
      (fun σ=>tryO (f σ) fx):=fun X hX σ s Q E o ho I hE' post=>by
  refine wpAny_Try_except ?_
  cases hfo:f σ with
  | none=>dsimp only at ho;rw [hfo] at ho;cases ho
  | some o' =>
    dsimp only at ho
    rw [hfo] at ho
    obtain ⟨σ',fl⟩:=o'
    refine hb X hX σ s _ _ _ hfo I PassesOwn.looking ?_
    cases fl with
    | nxt=>cases ho;exact fun h' tk I'=>wpAny_execs_nil (post h' tk I')
    | brk=>cases ho;exact post
    | ret d=>cases ho;exact post
    | exc t =>
      obtain ⟨dX,e1,e2⟩:=obind_some ho
      cases e2
      intro x h₁ t₁ I₁ y₁
      refine note_ex (s:={ s with heap:=h₁,toks:=t₁ }) hX.room.fr I₁.frames rfl y₁ I₁.stays fun h₂ x2 y₂=>?_
      have I₂:=I₁.ext x2
      refine flight_ex (s:={ s with heap:=h₂,toks:=t₁ }) (fr:=none) y₂ I₂.stays fun h₃ x3 y₃=>?_
      have I₃:=I₂.ext x3
      obtain ⟨N,mN,k0,k1,k2,k3,k5,fI,dV,cdI,XA,hns,hna,hi,hI,hga,hgb⟩:=XF.cls
      obtain ⟨oe,vs,dx,me,h1,h2,_⟩:=id y₃.at_
      refine wpAny_handleBy_cons (codeAny_handlers_test (s:={ s with heap:=h₃,toks:=t₁ }) ?_) (by intro q;cases q)
      refine Name_function_global I.kind (by show X.scope.names.lookup _ = _;rw [hX.sc];exact hR) (loadGlobal_global (env:=X.env) (G.g.keeps I₃.stays) XF.raised ?_) rfl
      refine wpAny_excMatches_sub_self (I₃.stays _ _ XA.cls) h1 h2 (by decide) ?_
      refine codeAny_handlers_suite_as ?_
      refine flight_ex (s:={ s with heap:=h₃,toks:=t₁ }) (fr:=none) y₃ I₃.stays fun h₄ x4 y₄=>?_
      have I₄:=I₃.ext x4
      refine hs_bind (s:={ s with heap:=h₄,toks:=t₁ }) hX I₄ y₄ hn hl hc fun h₅ t₅ H₅=>?_
      refine hs_suite XF (s:={ s with heap:=h₅,toks:=t₅ }) hX H₅ hl hd hE e1 he fun v h₆ t₆ m F₆ u₆ r₆=>?_
      refine wpAny_nameGoes (s:={ s with heap:=h₆,toks:=t₆ }) (by show X.scope.names.lookup n = _;rw [hX.sc];exact hl) F₆.ns (by show (X.scope.kind == .class || (X.scope.kind == .module && _)) = false;rw [I.kind];rfl) fun h₇ m' n₇ sb₇=>?_
      obtain ⟨oL,es,ep,hL,hLd,_⟩:=F₆.ns
      refine post v h₇ _ (StaysIn.same F₆ sb₇) (u₆.but I.lnew fun b o hb e=>(sb₇.2 b hb).trans e) (r₆.but (l:=X.L) (fun o xs n e q=>by have e':h₆.get? X.L = some o:=e;rw [hL] at e';cases e';rw [hLd] at q;cases q) fun b o hb e=>(sb₇.2 b hb).trans e)
end
end Mine
end
section
open PySem PySem.W PyProof.Rows PySem.Spec PySem.Calls
namespace Mine
section
variable {C:Cx} {S:Sh}
theorem SE.frz {e:Expr} {f:Store→Res PyData} (h:SE C S e f) (hn:S.names.Nodup):SE C S e (fun σ=>f (frz σ)):=fun X hX σ s Q E r hr I post =>
  h X hX (Mine.frz σ) s Q E r hr (I.frz (by rw [hX.nm];exact hn)) post
theorem ST.frz {e:Expr} {f:Store→Res Bool} (h:ST C S e f) (hn:S.names.Nodup):ST C S e (fun σ=>f (frz σ)):=fun X hX σ s Q E r hr I post =>
  h X hX (Mine.frz σ) s Q E r hr (I.frz (by rw [hX.nm];exact hn)) post
noncomputable def PostN (C:Cx) (X:Fx) (s:Shared) (r:Except Str (List PyData)) (Q E:Value→Shared→Prop):Prop:=match r with
  | .ok ds=>∀ a vs h' tk,Ext C.base s.heap h'→OwnL h' a vs.toArray→RdL h' vs ds→X.g.get? a = none→C.base.get? a = none→Q (.ref a) { s with heap:=h',toks:=tk }
  | .error t=>∀ x h' tk,Ext C.base s.heap h'→Fly C x t h'→E (.ref x) { s with heap:=h',toks:=tk }
noncomputable def SN (C:Cx) (S:Sh) (e:Expr) (f:Store→Res (List PyData)):Prop :=
  ∀ X,Fits S X→∀ σ s Q E r,f σ = some r→FInv C X σ s.heap→PostN C X s r Q E→wpAny C.M X.A (eval e X.env) Q E s
theorem FInv.newAt {X:Fx} {σ:Store} {h:Heap} (I:FInv C X σ h):X.g.get? h.objs.size = none∧C.base.get? h.objs.size = none:=by
  obtain ⟨m,F,_⟩:=I.loc
  have hg:X.g.objs.size ≤ h.objs.size:=Nat.le_trans I.gsz (Nat.le_of_lt F.ns.lt)
  constructor
  · cases hq:X.g.get? h.objs.size with
    | none=>rfl
    | some o=>exact absurd (Nat.lt_of_lt_of_le (Heap.lt_size hq) hg) (Nat.lt_irrefl _)
  · cases hq:C.base.get? h.objs.size with
    | none=>rfl
    | some o=>exact absurd (Nat.lt_of_lt_of_le (Heap.lt_size hq) I.size) (Nat.lt_irrefl _)
theorem SN.list {es:List Expr} {p:Pos} {f:Store→Res (List PyData)} (h:SA C S es f):SN C S (.List es p) (fun σ=>bnd (f σ) fun ds=>if ds.length ≤ 1000000 then ret' ds else none):=fun X hX σ s Q E r hr I post=>by
  refine List_ (h.then hX I hr (fun ds vs h₁ t₁ _ k1 x1 I1 r1=>?_) (fun t x h' tk e1 x1 x2=>by subst e1;exact post x h' tk x1 x2))
  split at k1
  · rename_i hn
    cases k1
    obtain ⟨n1,n2⟩:=I1.newAt
    have x:=Ext.push I1.stays { cls:=.type "list",data:=.seq vs.toArray }
    refine wpAny_newObj_type (post h₁.objs.size vs _ t₁ (x1.trans x) ⟨_,Heap.get?_push_size _ rfl,rfl,rfl,_,rfl⟩ (r1.ext x) n1 n2) ?_
    show vs.toArray.size ≤ sizeLine
    rw [List.size_toArray,r1.length]
    exact small_fits hn
  · cases k1
noncomputable def dropV:Option PyData→Option PyData
  | some d=>if lf d then some d else none
  | none=>none
theorem dropV_some {o:Option PyData} {d:PyData} (h:dropV o = some d):o = some d∧lf d = true:=by
  unfold dropV at h
  split at h
  · split at h
    · rename_i q;cases h;exact ⟨rfl,q⟩
    · cases h
  · cases h
noncomputable def ownV (i:Nat) (ds:List PyData) (σ:Store):Option Store:=if lfs ds then some { vs:=(σ.vs.set i none).map dropV,own:=some (i,ds) } else none
theorem store_own {X:Fx} (hX:Fits S X) {σ σ':Store} {s:Shared} {i:Nat} {x:Str} {a:Addr} {vs:List Value} {ds:List PyData} {Q:Unit→Shared→Prop} {E:Value→Shared→Prop} (I:FInv C X σ s.heap) (hi:SlotAt S i x)
    (hs:ownV i ds σ = some σ') (hl:OwnL s.heap a vs.toArray) (r:RdL s.heap vs ds) (hg:X.g.get? a = none) (hb:C.base.get? a = none) (h:∀ h' tk,FInv C X σ' h'→(∀ b o,b ≠ X.L→s.heap.get? b = some o→h'.get? b = some o)→Q () { s with heap:=h',toks:=tk }):wpAny C.M X.A (storeName X.env x (.ref a)) Q E s:=by
  obtain ⟨m,F,hv,ho⟩:=id I.loc
  have hk:X.scope.kind = .function:=I.kind
  have hlo:X.env.kindOf x = some .local:=by show X.scope.names.lookup x = _;rw [hX.sc];exact hi.loc
  have hp:(X.env.scope.kind == .class || (X.env.scope.kind == .module && X.env.locals != X.env.globals)) = false:=by
    show (X.scope.kind == .class || (X.scope.kind == .module && _)) = false
    rw [hk];rfl
  refine wpAny_storeName_local hlo F.ns (fun h' hn hsb=>h h' _ ?_ fun b o hb e=>(hsb.2 b hb).trans e) hp
  have F':=F.set hn hsb
  obtain ⟨oL,es,ep,hL,hLd,_⟩:=F.ns
  have kb:∀ b o,b ≠ X.L→s.heap.get? b = some o→h'.get? b = some o:=fun b o hb e=>(hsb.2 b hb).trans e
  have nl:∀ o xs n,s.heap.get? X.L = some o→o.data ≠ .seq xs n:=fun o xs n e q=>by
    rw [hL] at e;cases e;rw [hLd] at q;cases q
  have nf:∀ o vs,s.heap.get? X.L = some o→o.data ≠ .fields vs:=fun o vs e q=>by
    rw [hL] at e;cases e;rw [hLd] at q;cases q
  unfold ownV at hs
  split at hs
  · rename_i hlf
    cases hs
    have ni:X.names[i]? = some x:=by rw [hX.nm];exact hi.at_
    have nd:X.names.Nodup:=by rw [hX.nm];exact hi.nodup
    have old:∀ (j:Nat) (d':PyData),((σ.vs.set i none).map dropV)[j]? = some (some d')→j ≠ i∧σ.vs[j]? = some (some d')∧lf d' = true:=fun j d' e=>by
      rw [List.getElem?_map,List.getElem?_set] at e
      obtain ⟨o,e1,e2⟩:=Option.map_eq_some_iff.mp e
      obtain ⟨rfl,e3⟩:=dropV_some e2
      by_cases hj:i = j
      · subst hj
        simp only [if_true] at e1
        split at e1 <;> cases e1
      · rw [if_neg hj] at e1
        exact ⟨fun q=>hj q.symm,e1,e3⟩
    exact
      { stays:=F'.keep
        up:=I.up.but I.lnew kb
        kept:=I.kept_but nf kb
        gframes:=I.gframes
        kind:=I.kind
        lnew:=I.lnew
        gsz:=I.gsz
        dom:=by
          rw [← F'.ns.eq_nsMap]
          show (if "code" = x then some _ else m "code") = none
          rw [if_neg (fun q=>hi.nc q.symm),F.ns.eq_nsMap]
          exact I.dom
        loc:=by
          refine ⟨_,F',fun j y d' e1 e2=>?_,fun j ds' e=>?_⟩
          · obtain ⟨hj,e3,_⟩:=old j d' e2
            obtain ⟨v',e4,r'⟩:=hv j y d' e1 e3
            refine ⟨v',?_,r'.but nl kb⟩
            show (if y = x then some _ else m y) = some v'
            have hne:y ≠ x:=fun q=>by subst q;exact hj (idx_unique nd e1 ni)
            rw [if_neg hne]
            exact e4
          · cases e
            refine ⟨fun j d' e=>(old j d' e).2.2,hlf,x,a,vs,ni,if_pos rfl,?_,r.but nl kb,hg,hb⟩
            obtain ⟨o,h1,h2,hdn,n,h3⟩:=hl
            exact ⟨o,kb _ _ (fun q=>nl o _ _ (q ▸ h1) h3) h1,h2,hdn,n,h3⟩ }
  · cases hs
theorem SX.own {x:Str} {p p':Pos} {e:Expr} {i:Nat} {f:Store→Res (List PyData)} (hf:SN C S e f) (hi:SlotAt S i x) (hw:∀ env,swapsWith e (some (.Name x p)) p'.line env = pure false:=by intro _;rfl) :
    SX C S (.Assign [.Name x p] e p') (fun σ=>ebind (f σ) σ fun ds=>obind (ownV i ds σ) fun σ'=>some (σ',.nxt)):=fun X hX σ s Q E o ho I hE post=>by
  refine wpAny_Assign_Name ?_ (hw _)
  rcases ebind_some ho with ⟨t,e1,e2⟩ | ⟨ds,e1,e2⟩
  · subst e2
    exact hf X hX σ s _ E _ e1 I fun x h' tk x1 x2=>post x h' tk (I.ext x1) x2
  · obtain ⟨σ',e3,e4⟩:=obind_some e2
    cases e4
    refine hf X hX σ s _ E _ e1 I fun a vs h' tk x1 l r g b=>?_
    exact store_own (s:={ s with heap:=h',toks:=tk }) hX (I.ext x1) hi e3 l r g b fun h2 tk2 I2 _=>post h2 tk2 I2
theorem Obj.dict_mapSeq (o:Obj) (f:Array Value→Array Value):(o.mapSeq f).dict = o.dict:=by
  obtain ⟨c,d,dt,sl⟩:=o;cases dt <;> rfl
theorem own_append {A:Around} {s:Shared} {l:Addr} {items:Array Value} {x:Value} {Q E:Value→Shared→Prop} (hl:OwnL s.heap l items)
    (hQ:∀ h',OwnL h' l (items.push x)→Heap.SameBut l s.heap h'→Q .none { s with heap:=h' }) (hsz:items.size ≤ sizeLine) :
    wpAny C.M A (call (.builtin "list.append") [.ref l,x]) Q E s:=by
  obtain ⟨o,ho,hc,hdn,n,hd⟩:=hl
  obtain ⟨n',hd'⟩:=Obj.data_mapSeq hd (·.push x)
  refine wpAny_call_entry slot_list_append ⟨o,ho,hc⟩ entry_list_append ?_ (args_list_append _ _)
  show wpAny _ _ (updateSeq l (·.push x) >>= fun _=>ret .none) _ _ s
  refine wpAny_bind ?_
  refine wpAny_updateSeq ho hd (wpAny_pure ⟨.none,rfl,hQ _ ?_ (Heap.SameBut.update ..)⟩)
  exact ⟨_,Heap.get?_update_self _ ho (Obj.isFreed_of_seq hd'),(Obj.cls_mapSeq ..).trans hc,(Obj.dict_mapSeq ..).trans hdn,n',hd'⟩
theorem FInv.own {X:Fx} (hn:X.names.Nodup) {σ:Store} {h h':Heap} {i:Nat} {ds ds':List PyData} {a:Addr} {vs':List Value} {x:Str} (I:FInv C X σ h) (ho:σ.own = some (i,ds)) (hi:X.names[i]? = some x)
    (ha:h.nsMap X.L x = some (.ref a)) (hl':OwnL h' a vs'.toArray) (hs:Heap.SameBut a h h') (hr:RdL h vs' ds') (hlf:lfs ds' = true):FInv C X { σ with own:=some (i,ds') } h':=by
  obtain ⟨m,F,hv,hO⟩:=id I.loc
  obtain ⟨fr,lds,y,a',ws,e1,e2,l1,r1,e3,e4⟩:=hO i ds ho
  rw [hi] at e1;cases e1
  rw [← F.ns.eq_nsMap,e2] at ha
  cases ha
  obtain ⟨oa,oa1,oa2,oa3,na,oa4⟩:=l1
  have aL:X.L ≠ a:=fun q=>by
    obtain ⟨oL,es,ep,hL,hLd,_⟩:=F.ns
    rw [q,oa1] at hL;cases hL;rw [oa4] at hLd;cases hLd
  have kb:∀ b o,b ≠ a→h.get? b = some o→h'.get? b = some o:=fun b o hb e=>(hs.2 b hb).trans e
  have cl:∀ o,h.get? a = some o→o.cls = .type "list":=fun o q=>by rw [oa1] at q;cases q;exact oa2
  have nsL:h'.Ns X.L m:=F.ns.sameBut hs aL
  have st:C.base.StaysIn h':=fun b o e=>kb _ _ (fun q=>by rw [q,e4] at e;cases e) (I.stays b o e)
  exact
    { stays:=st
      up:=I.up.but e3 kb
      kept:=I.kept_but (fun o vs e q=>by rw [oa1] at e;cases e;rw [oa4] at q;cases q) kb
      gframes:=I.gframes
      kind:=I.kind
      lnew:=I.lnew
      gsz:=I.gsz
      dom:=by rw [← nsL.eq_nsMap,F.ns.eq_nsMap];exact I.dom
      loc:=by
        refine ⟨m,⟨nsL,st,F.above⟩,fun j y d' e5 e6=>?_,fun j ds'' e=>?_⟩
        · obtain ⟨v,e7,r⟩:=hv j y d' e5 e6
          exact ⟨v,e7,r.but_list cl kb (fr j d' e6)⟩
        · cases e
          exact ⟨fr,hlf,x,a,vs',hi,e2,hl',hr.but_list cl kb hlf,e3,e4⟩ }
noncomputable def appV (i:Nat) (f:Store→Res PyData) (σ:Store):Option Out:=match σ.own with
  | none=>none
  | some (j,ds)=>if j = i∧ds.length ≤ 1000000 then ebind (f σ) σ fun d=>if lf d then some ({ σ with own:=some (i,ds ++ [d]) },.nxt) else none else none
theorem SX.append {x:Str} {e:Expr} {p1 p2 p3 p4:Pos} {i:Nat} {f:Store→Res PyData} {pl:Env→Sem Bool} (hf:SE C S e f) (hi:SlotAt S i x) (hd:(x == ("__debug__":Str)) = false)
    (he:∀ env,starEach [e] env = [(false,eval e env)]:=by intro _;rfl)
    (hc:∀ env,eval (.Call (.Attribute (.Name x p1) "append" p2) [e] [] p3) env = (do
      let ov ← eval (.Name x p1) env
      standAt p2.atName
      let (f,first) ← holding [ov] (getMethod ov "append" (pl env))
      callWith p3 f first (backTo p3 (starEach [e] env)) []):=by intro _;rfl)
    (hw:∀ env,swapsWith (.Call (.Attribute (.Name x p1) "append" p2) [e] [] p3) none p4.line env = pure false:=by intro _;rfl) :
    SX C S (.Expr (.Call (.Attribute (.Name x p1) "append" p2) [e] [] p3) p4) (appV i f):=fun X hX σ s Q E o ho I hE post=>by
  have hin:interactive X.env = false:=by show (X.scope.kind == .module && _) = false;rw [I.kind];rfl
  have nx:X.names[i]? = some x:=by rw [hX.nm];exact hi.at_
  have nd:X.names.Nodup:=by rw [hX.nm];exact hi.nodup
  unfold appV at ho
  split at ho
  · cases ho
  · rename_i j ds ho'
    split at ho
    · rename_i hj
      obtain ⟨rfl,hlen⟩:=hj
      obtain ⟨m,F,hv,hO⟩:=id I.loc
      obtain ⟨fr,lds,y,a,ws,e1,e2,l1,r1,e3,e4⟩:=hO j ds ho'
      rw [nx] at e1;cases e1
      obtain ⟨oa,oa1,oa2,oa3,na,oa4⟩:=id l1
      refine wpAny_Expr ?_ hin (hw _)
      refine MethodCall_ ?_ (hc _)
      refine ld F e2 (getMethod_list_append oa1 oa2 oa3 ?_) I.kind (by show X.scope.names.lookup x = _;rw [hX.sc];exact hi.loc) hd
      refine callWith_method1 ?_ (he _)
      refine args_cons ?_ (he _)
      rcases ebind_some ho with ⟨t,q1,q2⟩ | ⟨d,q1,q2⟩
      · subst q2
        exact hf X hX σ s _ E _ q1 I fun x h' tk x1 x2=>post x h' tk (I.ext x1) x2
      · refine hf X hX σ s _ E _ q1 I fun v h' tk x1 r=>args_nil ?_
        split at q2
        · rename_i hlf
          cases q2
          have I1:=I.ext x1
          have l2:=l1.up x1.2
          have r2:=r1.ext x1
          refine own_append (s:={ s with heap:=h',toks:=tk }) l2 (fun h2 l3 sb=>?_) ?_
          · refine post h2 tk ?_
            refine I1.own nd (ds':=ds ++ [d]) (vs':=ws ++ [v]) ho' nx ?_ (by rw [show (ws ++ [v]).toArray = ws.toArray.push v from by simp];exact l3) sb (r2.append (.cons r .nil)) ?_
            · rw [← (F.of_stays x1.1 x1.2.slots).ns.eq_nsMap];exact e2
            · rw [lfs_append,lds];simp [lfs,hlf]
          · rw [List.size_toArray,r2.length];exact small_fits hlen
        · cases q2
    · cases ho
end
end Mine
end
section
open PySem PySem.W PyProof.Rows PySem.Spec PySem.Calls
namespace Mine
section
variable {C:Cx} {S:Sh}
noncomputable def negD:PyData→Option PyData
  | .int a=>some (.int (-a))
  | _=>none
theorem SE.neg {e:Expr} {p:Pos} {f:Store→Res PyData} (hf:SE C S e f):SE C S (.UnaryOp .USub e p) (fun σ=>bnd (f σ) fun a=>lft (negD a)):=fun X hX σ s Q E r hr I post=>by
  refine wpAny_UnaryOp (hf.then hX I hr (fun a va h₁ t₁ _ k1 x1 I1 r1=>?_) (fun t x h' tk e1 x1 x2=>by subst e1;exact post x h' tk x1 x2))
  obtain ⟨d,e1,rfl⟩:=lft_some k1
  unfold negD at e1;split at e1
  · obtain ⟨t,rfl⟩:=r1.int_inv
    cases e1
    exact P.neg_int (post _ h₁ _ x1 (.int _ _))
  · cases e1
theorem BinOk.mul:BinOk C .Mult mulD:=fun A s va vb a b d Q E hh hs ra rb e post=>by
  unfold mulD at e;split at e
  · rename_i x y
    split at e
    · rename_i hn
      obtain ⟨t,rfl⟩:=ra.int_inv
      obtain ⟨u,rfl⟩:=rb.int_inv
      cases e
      have hm:IntMulOk x y:=IntMulOk.of_left (intBits_le_64 (by lia) (by lia))
      exact ⟨P.mul_int (post _ s.heap _ (.refl hs) (.int _ _)) hm,P.imul_int (post _ s.heap _ (.refl hs) (.int _ _)) hm⟩
    · cases e
  · cases e
theorem BinOk.mod:BinOk C .Mod modD:=fun A s va vb a b d Q E hh hs ra rb e post=>by
  unfold modD at e;split at e
  · split at e
    · cases e
    · rename_i hn
      obtain ⟨t,rfl⟩:=ra.int_inv
      obtain ⟨u,rfl⟩:=rb.int_inv
      cases e
      exact ⟨mod_int' hn (post _ s.heap _ (.refl hs) (.int _ _)),imod_int hn (post _ s.heap _ (.refl hs) (.int _ _))⟩
  · cases e
noncomputable def divD:PyData→PyData→Option PyData
  | .int a,.int b=>if b ≠ 0∧b.natAbs < 1073741824 then some (.int (a.fdiv b)) else none
  | _,_=>none
theorem BinOk.floordiv:BinOk C .FloorDiv divD:=fun A s va vb a b d Q E hh hs ra rb e post=>by
  unfold divD at e;split at e
  · rename_i x y
    split at e
    · rename_i hn
      obtain ⟨t,rfl⟩:=ra.int_inv
      obtain ⟨u,rfl⟩:=rb.int_inv
      cases e
      have hp:Builtin.divisionGoesByPylong x y = false ∨ PySem.PylongRoom C.M A s:=Or.inl (PyProof.noPylong_small hn.2)
      exact ⟨floordiv_int hn.1 (post _ s.heap _ (.refl hs) (.int _ _)) hp,ifloordiv_int hn.1 (post _ s.heap _ (.refl hs) (.int _ _)) hp⟩
    · cases e
  · cases e
noncomputable def addT:PyData→PyData→Option PyData
  | .tuple a,.tuple b=>if a.length + b.length ≤ 1000000 then some (.tuple (a ++ b)) else none
  | _,_=>none
theorem add_tuple_rd {A:Around} {s:Shared} {va vb:Value} {a b d:PyData} {Q E:Value→Shared→Prop} (hs:C.base.StaysIn s.heap) (ra:Rd s.heap va a) (rb:Rd s.heap vb b) (e:addT a b = some d)
    (post:∀ v h' tk,Ext C.base s.heap h'→Rd h' v d→Q v { s with heap:=h',toks:=tk }):wpAny C.M A (binaryOp .Add va vb) Q E s:=by
  unfold addT at e;split at e
  · split at e
    · rename_i hn
      cases e
      obtain ⟨t,vs,rfl,ht,hr⟩:=ra.tuple_inv
      obtain ⟨b,ws,rfl,hb,hq⟩:=rb.tuple_inv
      obtain ⟨⟨cls,dd,data,sl⟩,ho,hc,n,hd⟩:=id ht
      obtain ⟨⟨cls2,dd2,data2,sl2⟩,ho2,hc2,n2,hd2⟩:=id hb
      simp only at hc hd hc2 hd2
      subst hc hd hc2 hd2
      have e:vs.toArray ++ ws.toArray = (vs ++ ws).toArray:=by simp
      by_cases hv:vs = []
      · refine concat_meets ⟨_,ho,rfl⟩ ⟨_,ho2,rfl⟩ noFill_tuple_add seq_tuple_add PySem.F.slot_tuple_add PySem.F.entry_tuple_add (PySem.F.args_tuple_add_2 _ _)
          (tuple_addW0 t b vs.toArray ws.toArray n n2 dd dd2 sl sl2 (by simp [hv])) ⟨ho,ho2,?_⟩
        subst hv
        have:=hr.length
        have:_ = []:=List.eq_nil_of_length_eq_zero this.symm
        subst this
        exact post _ s.heap s.toks (.refl hs) (.tuple_at ho2 rfl rfl hq)
      · by_cases hw:ws = []
        · refine concat_meets ⟨_,ho,rfl⟩ ⟨_,ho2,rfl⟩ noFill_tuple_add seq_tuple_add PySem.F.slot_tuple_add PySem.F.entry_tuple_add (PySem.F.args_tuple_add_2 _ _)
            (tuple_addW1 t b vs.toArray ws.toArray n n2 dd dd2 sl sl2 (by simpa using hv) (by simp [hw])) ⟨ho,ho2,?_⟩
          subst hw
          have:_ = []:=List.eq_nil_of_length_eq_zero hq.length.symm
          subst this
          rw [List.append_nil] at post
          exact post _ s.heap s.toks (.refl hs) (.tuple_at ho rfl rfl hr)
        · refine concat_meets ⟨_,ho,rfl⟩ ⟨_,ho2,rfl⟩ noFill_tuple_add seq_tuple_add PySem.F.slot_tuple_add PySem.F.entry_tuple_add (PySem.F.args_tuple_add_2 _ _)
            (tuple_addW2 t b vs.toArray ws.toArray n n2 dd dd2 sl sl2 (by simpa using hv) (by simpa using hw) (by rw [List.size_toArray,List.size_toArray,hr.length,hq.length];exact small_fits hn)) ⟨ho,ho2,?_⟩
          rw [e]
          have x:=Ext.push hs { cls:=.type "tuple",data:=.seq (vs ++ ws).toArray }
          exact post _ _ s.toks x (.tuple_at (Heap.get?_push_size _ rfl) rfl rfl ((hr.append hq).ext x))
    · cases e
  · cases e
theorem SE.addT {l r:Expr} {p:Pos} {f g:Store→Res PyData} (hf:SE C S l f) (hg:SE C S r g) :
    SE C S (.BinOp l .Add r p) (fun σ=>bnd (f σ) fun a=>bnd (g σ) fun b=>lft (Mine.addT a b)):=fun X hX σ s Q E r hr I post=>by
  refine wpAny_BinOp (hf.then hX I hr (fun a va h₁ t₁ _ k1 x1 I1 r1=>?_) (fun t x h' tk e1 x1 x2=>by subst e1;exact post x h' tk x1 x2))
  refine hg.then hX (s:={ s with heap:=h₁,toks:=t₁ }) I1 k1 (fun b vb h₂ t₂ _ k2 x2 I2 r2=>?_) (fun t x h' tk e1 x2 x3=>by subst e1;exact post x h' tk (x1.trans x2) x3)
  obtain ⟨d,e1,rfl⟩:=lft_some k2
  exact add_tuple_rd (s:={ s with heap:=h₂,toks:=t₂ }) I2.stays (r1.ext x2) r2 e1 fun v h' tk x3 r3=>post v h' tk ((x1.trans x2).trans x3) r3
theorem SE.tup (G:Glb C) {p p':Pos} {e:Expr} {f:Store→Res PyData} (hm:C.mg "tuple" = none) (hk:S.scope.kind = .function) (hl:S.scope.names.lookup ("tuple":Str) = some .globalImplicit)
    (hf:SE C S e f) (he:∀ env,starEach [e] env = [(false,eval e env)]:=by intro _;rfl)
    (hc:∀ env,eval (.Call (.Name "tuple" p) [e] [] p') env = (do callWith p' (← eval (.Name "tuple" p) env) [] (backTo p' (starEach [e] env)) (backToKw p' (keywordEach [] env))):=by intro _;rfl) :
    SE C S (.Call (.Name "tuple" p) [e] [] p') (fun σ=>bnd (f σ) fun a=>lft (tupleF a)):=fun X hX σ s Q E r hr I post=>by
  refine Call_ ?_ (hc _)
  refine name_blt G I.stays hm (v:=.type "tuple") rfl (by decide) (by rw [hX.sc];exact hk) (by rw [hX.sc];exact hl) rfl ?_
  refine PyProof.Rows.callWith_type1 (args_cons (hf.then hX I hr (fun a va h₁ t₁ _ k1 x1 I1 r1=>?_) (fun t x h' tk e1 x1 x2=>by subst e1;exact post x h' tk x1 x2)) (he _)) (he _)
  refine args_nil ?_
  obtain ⟨d,e1,rfl⟩:=lft_some k1
  exact call_tuple_rd (s:={ s with heap:=h₁,toks:=t₁ }) I1.stays r1 e1 fun v h' tk x2 r2=>post v h' tk (x1.trans x2) r2
noncomputable def Mth (C:Cx) (name:Str) (g:PyData→List PyData→Option PyData):Prop :=
  ∃ id:String,(∀ (A:Around) (s:Shared) (x:Str) (t:Tok) (pl:Sem Bool) (Q:Value × List Value→Shared→Prop) (E:Value→Shared→Prop),Q (.builtin id,[.str x t]) s→wpAny C.M A (getMethod (.str x t) name pl) Q E s) ∧
  ∀ (A:Around) (s:Shared) (x:Str) (t:Tok) (vs:List Value) (ds:List PyData) (d:PyData) (Q E:Value→Shared→Prop),C.base.StaysIn s.heap→RdL s.heap vs ds→g (.str x) ds = some d →
    (∀ v h' tk,Ext C.base s.heap h'→Rd h' v d→Q v { s with heap:=h',toks:=tk })→wpAny C.M A (call (.builtin id) (.str x t :: vs)) Q E s
noncomputable def findD:PyData→List PyData→Option PyData
  | .str x,[.str y]=>some (.int (Txt.find x y))
  | .str x,[.str y,.int i]=>some (.int (Txt.find3 x y i))
  | _,_=>none
noncomputable def countD:PyData→List PyData→Option PyData
  | .str x,[.str y]=>some (.int (Txt.count x y))
  | _,_=>none
theorem Mth.find:Mth C "find" findD:=⟨"str.find",fun A s x t pl Q E h=>GM.find h,fun A s x t vs ds d Q E hs r e post=>by
  unfold findD at e;split at e
  · rename_i h1;cases h1
    obtain ⟨v,ws,rfl,a,b⟩:=r.cons_inv
    obtain ⟨u,rfl⟩:=a.str_inv
    rw [b.nil_inv]
    cases e
    exact SC.find (post _ s.heap _ (.refl hs) (.int _ _))
  · rename_i h1;cases h1
    obtain ⟨v,ws,rfl,a,b⟩:=r.cons_inv
    obtain ⟨u,rfl⟩:=a.str_inv
    obtain ⟨v,ws,rfl,a',b'⟩:=b.cons_inv
    obtain ⟨u',rfl⟩:=a'.int_inv
    obtain rfl:=b'.nil_inv
    cases e
    exact SC.find3 (post _ s.heap _ (.refl hs) (.int _ _))
  · cases e⟩
theorem Mth.count:Mth C "count" countD:=⟨"str.count",fun A s x t pl Q E h=>GM.count h,fun A s x t vs ds d Q E hs r e post=>by
  unfold countD at e;split at e
  · rename_i h1;cases h1
    obtain ⟨v,ws,rfl,a,b⟩:=r.cons_inv
    obtain ⟨u,rfl⟩:=a.str_inv
    rw [b.nil_inv]
    cases e
    exact SC.count (post _ s.heap _ (.refl hs) (.int _ _))
  · cases e⟩
noncomputable def strOnly (a:PyData):Res PyData:=match a with
  | .str x=>ret' (.str x)
  | _=>none
theorem SE.meth {name:Str} {g:PyData→List PyData→Option PyData} (hg:Mth C name g) {o:Expr} {e:Expr} {es:List Expr} {p2 p3:Pos} {f:Store→Res PyData} {fa:Store→Res (List PyData)} {pl:Env→Sem Bool} (hf:SE C S o f) (ha:SA C S (e :: es) fa)
    (he:∀ env,starEach (e :: es) env = (false,eval e env) :: starEach es env:=by intro _;rfl)
    (hp:∀ env,(backTo p3 (starEach es env)).any (·.1) = false:=by intro _;rfl)
    (hc:∀ env,eval (.Call (.Attribute o name p2) (e :: es) [] p3) env = (do
      let ov ← eval o env
      standAt p2.atName
      let (f,first) ← holding [ov] (getMethod ov name (pl env))
      callWith p3 f first (backTo p3 (starEach (e :: es) env)) []):=by intro _;rfl) :
    SE C S (.Call (.Attribute o name p2) (e :: es) [] p3) (fun σ=>bnd (bnd (f σ) strOnly) fun a=>bnd (fa σ) fun ds=>lft (g a ds)):=fun X hX σ s Q E r hr I post=>by
  obtain ⟨id,h1,h2⟩:=hg
  refine MethodCall_ ?_ (hc _)
  have hr':bnd (f σ) (fun a=>bnd (strOnly a) fun a=>bnd (fa σ) fun ds=>lft (g a ds)) = some r:=by
    dsimp only at hr
    cases hq:f σ with
    | none=>rw [hq] at hr;exact hr
    | some q=>cases q with
      | error t=>rw [hq] at hr;exact hr
      | ok a=>rw [hq] at hr;exact hr
  refine hf.then hX I hr' (fun a va h₁ t₁ e0 k1 x1 I1 r1=>?_) (fun t x h' tk e1 x1 x2=>by subst e1;exact post x h' tk x1 x2)
  unfold strOnly at k1
  cases a
  case str x =>
    obtain ⟨t,rfl⟩:=r1.str_inv
    rw [bnd_ret] at k1
    refine h1 X.A { s with heap:=h₁,toks:=t₁ } x t _ _ _ ?_
    refine callWith_method1 ?_ (he _) (hp _)
    refine ha.then hX (s:={ s with heap:=h₁,toks:=t₁ }) I1 k1 (fun ds vs h₂ t₂ _ k2 x2 I2 r2=>?_) (fun t x h' tk e1 x2 x3=>by subst e1;exact post x h' tk (x1.trans x2) x3)
    obtain ⟨d,e1,rfl⟩:=lft_some k2
    exact h2 X.A { s with heap:=h₂,toks:=t₂ } x t vs ds d _ _ I2.stays r2 e1 fun v h' tk x3 r3=>post v h' tk ((x1.trans x2).trans x3) r3
  all_goals cases k1
end
end Mine
end
section
open PySem PySem.W PyProof.Rows PySem.Spec PySem.Calls
namespace Mine
section
variable {C:Cx} {S:Sh}
theorem OwnAt.other {X:Fx} {σ:Store} {m:Str→Option Value} {h:Heap} {i:Nat} {ds:List PyData} {K:List (Addr × Obj)} (o:OwnAt C X σ m h i ds):OwnAt C { X with keep:=K } σ m h i ds:=⟨o.free,o.lfs,o.at_⟩
theorem FInv.rekeep {X:Fx} {σ:Store} {h:Heap} {K:List (Addr × Obj)} (F:FInv C X σ h) (hk:∀ p ∈ K,IsIt p.2∧h.get? p.1 = some p.2):FInv C { X with keep:=K } σ h :=
  ⟨F.stays,F.up,F.gframes,F.kind,F.lnew,F.gsz,F.dom,hk,let ⟨m,a,b,c⟩:=F.loc;⟨m,a,b,fun i ds e=>(c i ds e).other⟩⟩
theorem FInv.keepIt {X:Fx} {σ:Store} {h:Heap} {I:Addr} {o:Obj} (F:FInv C X σ h) (hi:IsIt o) (ho:h.get? I = some o):FInv C { X with keep:=(I,o) :: X.keep } σ h :=
  F.rekeep fun p hp=>by
    rcases List.mem_cons.mp hp with rfl | hp
    · exact ⟨hi,ho⟩
    · exact F.kept p hp
theorem FInv.unkeep {X:Fx} {σ:Store} {h:Heap} {q:Addr × Obj} (F:FInv C { X with keep:=q :: X.keep } σ h):FInv C X σ h :=
  ⟨F.stays,F.up,F.gframes,F.kind,F.lnew,F.gsz,F.dom,fun p hp=>F.kept p (.tail _ hp),let ⟨m,a,b,c⟩:=F.loc;⟨m,a,b,fun i ds e=>⟨(c i ds e).free,(c i ds e).lfs,(c i ds e).at_⟩⟩⟩
theorem FInv.lose {X:Fx} {σ:Store} {h h':Heap} {I:Addr} {o:Obj} (F:FInv C { X with keep:=(I,o) :: X.keep } σ h) (hb:C.base.get? I = none) (hg:X.g.get? I = none) (hn:∀ p ∈ X.keep,p.1 ≠ I)
    (k:∀ b ob,b ≠ I→h.get? b = some ob→h'.get? b = some ob):FInv C X σ h':=by
  obtain ⟨⟨ic,vs,hd⟩,e0⟩:=F.kept (I,o) (.head _)
  dsimp only at e0 hd
  have nI:∀ oo xs n,h.get? I = some oo→oo.data ≠ .seq xs n:=fun oo xs n q w=>by
    rw [e0] at q;cases q;rw [hd] at w;cases w
  obtain ⟨m,Fr',hv,hO⟩:=F.loc
  obtain ⟨oL,es,ep,hL,hLd,hr⟩:=id Fr'.ns
  have nL:X.L ≠ I:=fun q=>by
    have hL':h.get? X.L = some oL:=hL
    rw [q,e0] at hL';cases hL';rw [hd] at hLd;cases hLd
  have st:C.base.StaysIn h':=fun b ob e=>k _ _ (fun q=>by rw [q,hb] at e;cases e) (F.stays b ob e)
  have ns':h'.Ns X.L m:=Fr'.ns.at' fun o e=>k _ _ nL e
  exact
    { stays:=st
      up:=F.up.but hg k
      gframes:=F.gframes
      kind:=F.kind
      lnew:=F.lnew
      gsz:=F.gsz
      dom:=by
        have e:h.nsMap X.L "code" = none:=F.dom
        rw [← ns'.eq_nsMap]
        rw [← Fr'.ns.eq_nsMap] at e
        exact e
      kept:=fun p hp=>by
        obtain ⟨i,e⟩:=F.kept p (.tail _ hp)
        exact ⟨i,k _ _ (hn p hp) e⟩
      loc:=by
        refine ⟨m,⟨ns',st,Fr'.above⟩,fun j y d e1 e2=>?_,fun j ds e=>?_⟩
        · obtain ⟨v,e3,r⟩:=hv j y d e1 e2
          exact ⟨v,e3,r.but nI k⟩
        · obtain ⟨fr,lds,y,a,ws,e1,e2,⟨ol,h1,h2,hdn,n,h3⟩,r,e3,e4⟩:=hO j ds e
          exact ⟨fr,lds,y,a,ws,e1,e2,⟨ol,k _ _ (fun q=>nI _ _ _ (q ▸ h1) h3) h1,h2,hdn,n,h3⟩,r.but nI k,e3,e4⟩ }
noncomputable def forN (ix:Nat) (f:Store→Option Out):Nat→Int→Store→Option Out
  | 0,_,σ=>some (σ,.nxt)
  | n + 1,i,σ=>obind (setV ix (.int i) σ) fun σ'=>match f σ' with
    | none=>none
    | some (σ₂,.nxt)=>forN ix f n (i + 1) σ₂
    | some (σ₂,.brk)=>some (σ₂,.nxt)
    | some (σ₂,.ret d)=>some (σ₂,.ret d)
    | some (σ₂,.exc t)=>some (σ₂,.exc t)
noncomputable def forD (ix:Nat) (f:Store→Option Out) (σ:Store) (d:PyData):Option Out:=match d with
  | .int n=>if 0 ≤ n∧n ≤ 1000000 then forN ix f n.toNat 0 σ else none
  | _=>none
theorem forD_some {ix:Nat} {f:Store→Option Out} {σ:Store} {d:PyData} {o:Out} (h:forD ix f σ d = some o):∃ n:Int,d = .int n∧(0 ≤ n∧n ≤ 1000000)∧forN ix f n.toNat 0 σ = some o:=by
  unfold forD at h
  split at h
  · split at h
    · rename_i n hn;exact ⟨_,rfl,hn,h⟩
    · cases h
  · cases h
theorem SX.forRange (G:Glb C) {x:Str} {px p p' p3:Pos} {e:Expr} {body:List Stmt} {i:Nat} {f:Store→Res PyData} {g:Store→Option Out} (hm:C.mg "range" = none) (hk:S.scope.kind = .function) (hl:S.scope.names.lookup ("range":Str) = some .globalImplicit)
    (hf:SE C S e f) (hi:SlotAt S i x) (hb:SS C S body g) (he:∀ env,starEach [e] env = [(false,eval e env)]:=by intro _;rfl)
    (hc:∀ env,eval (.Call (.Name "range" p) [e] [] p') env = (do callWith p' (← eval (.Name "range" p) env) [] (backTo p' (starEach [e] env)) (backToKw p' (keywordEach [] env))):=by intro _;rfl)
    (hs:∀ env x,foldedSetIterable (.Call (.Name "range" p) [e] [] p') env x = pure x:=by intro _ _;rfl) :
    SX C S (.For (.Name x px) (.Call (.Name "range" p) [e] [] p') body [] p3) (fun σ=>ebind (f σ) σ fun d=>forD i g σ d):=fun X hX σ s Q E o ho I hE post=>by
  refine wpAny_For (Call_ ?_ (hc _)) (hs _)
  refine name_blt G I.stays hm (v:=.type "range") rfl (by decide) (by rw [hX.sc];exact hk) (by rw [hX.sc];exact hl) rfl ?_
  refine PyProof.Rows.callWith_type1 (args_cons (hf.thenS hX I ho post fun d v h₁ t₁ _ k1 x1 I1 r1 po=>?_) (he _)) (he _)
  refine args_nil ?_
  obtain ⟨n,rfl,hn,k1⟩:=forD_some k1
  obtain ⟨t,rfl⟩:=r1.int_inv
  refine call_range_1 ?_
  have x2:=Ext.push I1.stays { cls:=.type "range",data:=.fields #[.int 0 t₁,.int n t,.int 1 (t₁ + 1)] }
  have I2:=I1.ext x2
  refine wpAny_pyIter_range (IsRange.new ..) (small_one (by lia) (by lia) (by lia) (by lia)) ?_
  obtain ⟨n1,n2⟩:=I2.newAt
  have x3:=Ext.push I2.stays { cls:=.type "range_iterator",data:=.fields #[rawInt 0,rawInt (Builtin.Range.rangeSize 0 n 1),rawInt 1] }
  have I3:=I2.ext x3
  have hit:IsRangeIter ((h₁.push { cls:=.type "range",data:=.fields #[.int 0 t₁,.int n t,.int 1 (t₁ + 1)] }).push { cls:=.type "range_iterator",data:=.fields #[rawInt 0,rawInt (Builtin.Range.rangeSize 0 n 1),rawInt 1] })
    (h₁.push { cls:=.type "range",data:=.fields #[.int 0 t₁,.int n t,.int 1 (t₁ + 1)] }).objs.size 0 n 1:=by
    rw [rangeSize_one]
    have:(if (0:Int) < n then n - 0 else 0) = n:=by split <;> lia
    rw [this]
    exact Heap.get?_push_size _ rfl
  have hnk:∀ q ∈ X.keep,q.1 ≠ (h₁.push { cls:=.type "range",data:=.fields #[.int 0 t₁,.int n t,.int 1 (t₁ + 1)] }).objs.size:=fun q hq w=>by
    have:=Heap.lt_size (I2.kept q hq).2
    rw [w] at this
    exact Nat.lt_irrefl _ this
  dsimp only
  generalize (h₁.push { cls:=.type "range",data:=.fields #[.int 0 t₁,.int n t,.int 1 (t₁ + 1)] }) = H2 at *
  generalize H2.objs.size = IT at *
  generalize H2.push { cls:=.type "range_iterator",data:=.fields #[rawInt 0,rawInt (Builtin.Range.rangeSize 0 n 1),rawInt 1] } = H3 at *
  have isit:∀ a b:Int,IsIt { cls:=.type "range_iterator",dict:=none,data:=.fields #[rawInt a,rawInt b,rawInt 1],slots:=#[] }:=fun a b=>⟨.inr (.inl rfl),_,rfl⟩
  refine codeAny_forLoop (fun k s'=>∃ σ' h tk j,s' = { s with heap:=h,toks:=tk }∧FInv C { X with keep:=(IT,{ cls:=.type "range_iterator",dict:=none,data:=.fields #[rawInt j,rawInt (k:Int),rawInt 1],slots:=#[] }) :: X.keep } σ' h∧forN i g k j σ' = some o) ?_ n.toNat
    ⟨σ,H3,_,0,rfl,I3.keepIt (isit _ _) (by rw [show ((n.toNat:Nat):Int) = n by lia];exact hit),k1⟩
  rintro k s' ⟨σ',h,tk,j,rfl,I',ho'⟩
  refine wpAny_passesOwn hE ?_
  have hit':IsRangeIter h IT j k 1:=(I'.kept _ (.head _)).2
  cases k with
  | zero =>
    refine wpAny_pyNext_range_end hX.room.hd hit' (by simp) fun h' he'=>wpAny_execs_nil ?_
    cases ho'
    exact post _ _ (FInv.lose I' n2 n1 hnk he')
  | succ k =>
    refine wpAny_pyNext_range_item hit' (by lia) fun h' hit₂ sb₂=>?_
    have I₂:FInv C { X with keep:=(IT,{ cls:=.type "range_iterator",dict:=none,data:=.fields #[rawInt (j + 1),rawInt (k:Int),rawInt 1],slots:=#[] }) :: X.keep } σ' h' :=
      (FInv.lose I' n2 n1 hnk (fun b ob hb e=>(sb₂.2 b hb).trans e)).keepIt (isit _ _) (by rw [show ((k:Nat):Int) = ((k + 1:Nat):Int) - 1 by lia];exact hit₂)
    dsimp only [forN] at ho'
    obtain ⟨σ₁,e1,e2⟩:=obind_some ho'
    refine wpAny_assign_Name ?_
    refine store_rd (X:={ X with keep:=(IT,{ cls:=.type "range_iterator",dict:=none,data:=.fields #[rawInt (j + 1),rawInt (k:Int),rawInt 1],slots:=#[] }) :: X.keep }) (s:={ s with heap:=h',toks:=tk + 1 }) (Fits.mk hX.sc hX.nm hX.room) I₂ hi e1 (.int j tk) fun h₃ t₃ I₃ _=>?_
    refine wpAny_passesOwn hE ?_
    cases e3:g σ₁ with
    | none=>rw [e3] at e2;cases e2
    | some r =>
      rw [e3] at e2
      obtain ⟨σ₂,fl⟩:=r
      refine hb { X with keep:=(IT,{ cls:=.type "range_iterator",dict:=none,data:=.fields #[rawInt (j + 1),rawInt (k:Int),rawInt 1],slots:=#[] }) :: X.keep } (Fits.mk hX.sc hX.nm hX.room) σ₁ { s with heap:=h₃,toks:=t₃ } _ _ _ e3 I₃ hE ?_
      cases fl with
      | nxt=>exact fun h₄ t₄ I₄=>⟨k,Nat.lt_succ_self _,σ₂,h₄,t₄,j + 1,rfl,I₄,e2⟩
      | brk=>cases e2;exact fun h₄ t₄ I₄=>post h₄ t₄ I₄.unkeep
      | ret d=>cases e2;exact post
      | exc t=>cases e2;exact fun x h₄ t₄ I₄ y=>post x h₄ t₄ I₄.unkeep y
end
end Mine
end
section
set_option tactic.hygienic false
open PySem PySem.W PyProof.Rows PySem.Spec PySem.Calls
namespace Mine
section
variable {prog:Program} {w:World} {A:Around} {R:Result→Shared→Prop} {s:Shared}
theorem compLoop_go {elt target iter:Expr} {scope:Scope} {pos:Pos} {it acc:Value} {env:Env} (I:Nat→Shared→Prop)
    (turn:∀ n s,I n s→wpAny (model prog w) A (pyNext it) (fun r s₁=>match r with
      | none=>R (.ok .next) s₁
      | some v=>wpAny (model prog w) A (letOwnedTupleGo target it v) (fun _ s₁=>wpAny (model prog w) A (assign target env v) (fun _ s₂=>wpAny (model prog w) A (eval elt env) (fun x s₃ =>
          wpAny (model prog w) A (call (.builtin "list.append") [acc,x]) (fun _ s₄=>∃ m,m < n∧I m s₄) (notedBy (model prog w) A env fun e s'=>R (.error e) s') s₃)
          (notedBy (model prog w) A env fun e s'=>R (.error e) s') s₂) (notedBy (model prog w) A env fun e s'=>R (.error e) s') s₁) (notedBy (model prog w) A env fun e s'=>R (.error e) s') s₁) (notedBy (model prog w) A env fun e s'=>R (.error e) s') s)
    (n:Nat) (h:I n s) :
    codeAny (model prog w) A (.compLoop (.ListComp elt [⟨target,iter,[],0⟩] scope pos) 0 it acc env) R s:=by
  refine codeAny_loop rfl I (fun n s hI=>?_) n h
  show wpAny _ A ((compTurn (.ListComp elt [⟨target,iter,[],0⟩] scope pos) 0 it acc env).onRaise (fun x=>do noteFrame x env;theTreesLotGoes x)) _ _ s
  refine wpAny_noted ?_
  rw [compTurn_list1]
  refine wpAny_bind (wpAny_standAt (wpAny_bind (wpAny_mono (turn n s hI) (fun r s₁ h₁=>?_) fun _ _ h'=>h')))
  cases r with
  | none=>exact wpAny_pure h₁
  | some v =>
    refine wpAny_bind (wpAny_mono h₁ (fun _ s₂ h₁=>?_) fun _ _ h'=>h')
    exact wpAny_bind (wpAny_mono h₁ (fun _ s₂ h₂=>wpAny_bind (wpAny_bind (wpAny_mono h₂ (fun x s₃ h₃=>wpAny_bind (wpAny_mono h₃
      (fun _ s₄ h₄=>wpAny_pure (wpAny_pure ⟨rfl,h₄⟩)) fun _ _ h'=>h')) fun _ _ h'=>h'))) fun _ _ h'=>h')
end
section
variable {C:Cx} {S:Sh}
noncomputable def CB (C:Cx) (scope:Scope) (target elt:Expr) (g:PyData→Option PyData):Prop :=
  ∀ (A:Around) (env:Env) (K:Addr) (m:Str→Option Value) (s:Shared) (v:Value) (d d':PyData) (Q:Value→Shared→Prop) (E:Value→Shared→Prop),A.handled = none→s.heap.Ns K m→Rd s.heap v d→g d = some d' →
    (∀ y h' tk m',h'.Ns K m'→(∀ b o,b ≠ K→s.heap.get? b = some o→h'.get? b = some o)→Rd h' y d'→Q y { s with heap:=h',toks:=tk }) →
    wpAny C.M A (assign target (compEnv scope K env) v) (fun _ s₁=>wpAny C.M A (eval elt (compEnv scope K env)) Q E s₁) E s
noncomputable def CG (C:Cx) (target:Expr) (g:PyData→Option PyData):Prop :=
  ∀ (A:Around) (s:Shared) (I l:Addr) (i:Nat) (v:Value) (d d':PyData) (Q:Unit→Shared→Prop) (E:Value→Shared→Prop),s.heap.IsListIter I l i→Rd s.heap v d→g d = some d'→Q () s→wpAny C.M A (letOwnedTupleGo target (.ref I) v) Q E s
noncomputable def mapO (g:PyData→Option PyData):List PyData→Option (List PyData)
  | []=>some []
  | d :: ds=>obind (g d) fun e=>obind (mapO g ds) fun es=>some (e :: es)
noncomputable def listOf:PyData→Option (List PyData)
  | .list ds=>some ds
  | _=>none
theorem listOf_some {d:PyData} {ds:List PyData} (h:listOf d = some ds):d = .list ds:=by
  unfold listOf at h;split at h <;> cases h;rfl
theorem mapO_len {g:PyData→Option PyData}:∀ {ds es:List PyData},mapO g ds = some es→es.length = ds.length
  | [],es,h=>by cases h;rfl
  | d :: ds,es,h=>by
    obtain ⟨e,_,h⟩:=obind_some (show obind _ _ = _ from h)
    obtain ⟨es',h2,h3⟩:=obind_some h
    cases h3
    simp [mapO_len h2]
theorem mapO_get {g:PyData→Option PyData}:∀ {ds es:List PyData},mapO g ds = some es→∀ (i:Nat) (d:PyData),ds[i]? = some d→∃ e,g d = some e∧es[i]? = some e
  | [],es,h,i,d,q=>by simp at q
  | d :: ds,es,h,i,d',q=>by
    obtain ⟨e,h1,h⟩:=obind_some (show obind _ _ = _ from h)
    obtain ⟨es',h2,h3⟩:=obind_some h
    cases h3
    cases i with
    | zero=>simp at q;subst q;exact ⟨e,h1,rfl⟩
    | succ i=>simpa using mapO_get h2 i d' (by simpa using q)
noncomputable def compD (g:PyData→Option PyData) (d:PyData):Option (List PyData) :=
  obind (listOf d) fun ds=>if ds.length ≤ 1000000 then obind (mapO g ds) fun es=>if lfs es then some es else none else none
theorem compD_some {g:PyData→Option PyData} {d:PyData} {es:List PyData} (h:compD g d = some es):∃ ds,d = .list ds∧ds.length ≤ 1000000∧mapO g ds = some es∧lfs es = true:=by
  obtain ⟨ds,h1,h⟩:=obind_some (show obind _ _ = _ from h)
  split at h
  · rename_i hn
    obtain ⟨es',h2,h⟩:=obind_some h
    split at h
    · rename_i hl;cases h;exact ⟨ds,listOf_some h1,hn,h2,hl⟩
    · cases h
  · cases h
theorem lfs_take:∀ (n:Nat) (l:List PyData),lfs l = true→lfs (l.take n) = true
  | 0,_,_=>rfl
  | _ + 1,[],_=>rfl
  | n + 1,d :: l,h=>by
    have h':(lf d && lfs l) = true:=h
    rw [Bool.and_eq_true] at h'
    show (lf d && lfs (l.take n)) = true
    rw [h'.1,lfs_take n l h'.2];rfl
theorem FInv.other {X:Fx} {σ:Store} {h h':Heap} {a:Addr} (F:FInv C X σ h) (hb:C.base.get? a = none) (hg:X.g.get? a = none) (na:∀ o xs n,h.get? a = some o→o.data ≠ .seq xs n) (nL:X.L ≠ a)
    (nk:∀ p ∈ X.keep,p.1 ≠ a) (k:∀ b ob,b ≠ a→h.get? b = some ob→h'.get? b = some ob):FInv C X σ h':=by
  obtain ⟨m,Fr',hv,hO⟩:=F.loc
  have st:C.base.StaysIn h':=fun b ob e=>k _ _ (fun q=>by rw [q,hb] at e;cases e) (F.stays b ob e)
  have ns':h'.Ns X.L m:=Fr'.ns.at' fun o e=>k _ _ nL e
  exact
    { stays:=st
      up:=F.up.but hg k
      gframes:=F.gframes
      kind:=F.kind
      lnew:=F.lnew
      gsz:=F.gsz
      dom:=by
        have e:h.nsMap X.L "code" = none:=F.dom
        rw [← ns'.eq_nsMap]
        rw [← Fr'.ns.eq_nsMap] at e
        exact e
      kept:=fun p hp=>by
        obtain ⟨i,e⟩:=F.kept p hp
        exact ⟨i,k _ _ (nk p hp) e⟩
      loc:=by
        refine ⟨m,⟨ns',st,Fr'.above⟩,fun j y d e1 e2=>?_,fun j ds e=>?_⟩
        · obtain ⟨v,e3,r⟩:=hv j y d e1 e2
          exact ⟨v,e3,r.but na k⟩
        · obtain ⟨fr,lds,y,a',ws,e1,e2,⟨ol,h1,h2,hdn,n,h3⟩,r,e3,e4⟩:=hO j ds e
          exact ⟨fr,lds,y,a',ws,e1,e2,⟨ol,k _ _ (fun q=>na _ _ _ (q ▸ h1) h3) h1,h2,hdn,n,h3⟩,r.but na k,e3,e4⟩ }
theorem FInv.fresh {X:Fx} {σ:Store} {h:Heap} (I1:FInv C X σ h) {a:Addr} (ha:h.objs.size ≤ a):X.g.get? a = none∧C.base.get? a = none∧X.L ≠ a∧∀ p ∈ X.keep,p.1 ≠ a:=by
  obtain ⟨m,F,_⟩:=id I1.loc
  have hg:X.g.objs.size ≤ h.objs.size:=Nat.le_trans I1.gsz (Nat.le_of_lt F.ns.lt)
  refine ⟨?_,?_,?_,fun p hp q=>?_⟩
  · cases hq:X.g.get? a with
    | none=>rfl
    | some o=>exact absurd (Nat.lt_of_lt_of_le (Heap.lt_size hq) (Nat.le_trans hg ha)) (Nat.lt_irrefl _)
  · cases hq:C.base.get? a with
    | none=>rfl
    | some o=>exact absurd (Nat.lt_of_lt_of_le (Heap.lt_size hq) (Nat.le_trans I1.size ha)) (Nat.lt_irrefl _)
  · exact Nat.ne_of_lt (Nat.lt_of_lt_of_le F.ns.lt ha)
  · have:=Heap.lt_size (I1.kept p hp).2
    rw [q] at this
    exact absurd this (Nat.not_lt.mpr ha)
theorem comp_block {target iter elt:Expr} {cscope:Scope} {pos:Pos} {g:PyData→Option PyData} {X:Fx} {σ:Store} {s:Shared} {h₁:Heap} {t₁:Nat} {ax:Addr} {vs:List Value} {ds es:List PyData} {E:Value→Shared→Prop} {RR:Value→Env→Result→Shared→Prop}
    (hb:CB C cscope target elt g) (hgo:CG C target g) (hcell:∀ y ∈ cscope.names,y.2 ≠ .cell) (hkind:cscope.kind = .function) (hhd:X.A.handled = none)
    (I1:FInv C X σ h₁) (hl:h₁.IsList ax vs.toArray) (hrd:RdL h₁ vs ds) (hn:ds.length ≤ 1000000) (hm:mapO g ds = some es) (hlf:lfs es = true)
    (hRR:∀ D K h' tk m' vs',h₁.objs.size ≤ D→h₁.objs.size ≤ K→D ≠ K→h'.Ns K m'→OwnL h' D (List.toArray vs')→RdL h' vs' es→(∀ b o,h₁.get? b = some o→h'.get? b = some o)→RR (.ref D) (compEnv cscope K X.env) (.ok .next) { s with heap:=h',toks:=tk }) :
    wpAny C.M X.A (pyIter (.ref ax)) (fun it s₂=>wpAny C.M X.A (newList []) (fun acc s₃ =>
      wpAny C.M X.A (newFunctionEnv cscope X.env.globals [] [] X.env.qual none .none (some X.env)) (fun cenv s₄ =>
        codeAny C.M X.A (.compStart (.ListComp elt [⟨target,iter,[],0⟩] cscope pos) 0 it acc { cenv with scope:=cscope }) (RR acc { cenv with scope:=cscope }) s₄) E s₃) E s₂) E { s with heap:=h₁,toks:=t₁ }:=by
  refine wpAny_pyIter_list (s:={ s with heap:=h₁,toks:=t₁ }) hl (wpAny_newObj_type (hd:=by size_fits) (wpAny_newFunctionEnv hcell (by intro y hy;simp at hy) (fun h₂ hns₂ hsb₂=>?_) hkind))
  dsimp only at hns₂ hsb₂ ⊢
  obtain ⟨ol,hol,hol'⟩:=id hl
  have hax:ax < h₁.objs.size:=Heap.lt_size hol
  generalize hH1:h₁.push { cls:=.type "list_iterator",data:=.fields #[.ref ax,.int 0 0] } = H1 at hns₂ hsb₂ ⊢
  have hD:H1.objs.size = h₁.objs.size + 1:=by rw [← hH1,Heap.size_push]
  generalize hH2:H1.push { cls:=.type "list",dict:=none,data:=.seq ([]:List Value).toArray } = H2 at hns₂ hsb₂ ⊢
  have hC:H2.objs.size = h₁.objs.size + 2:=by rw [← hH2,Heap.size_push,hD]
  have hDI:H1.objs.size ≠ h₁.objs.size:=by rw [hD];exact Nat.succ_ne_self _
  have hDC:H1.objs.size ≠ H2.objs.size:=by rw [hD,hC];exact Nat.ne_of_lt (Nat.lt_succ_self _)
  have hIC:h₁.objs.size ≠ H2.objs.size:=by rw [hC];exact Nat.ne_of_lt (Nat.lt_succ_of_lt (Nat.lt_succ_self _))
  have below:∀ b,b < h₁.objs.size→b ≠ H2.objs.size∧b ≠ h₁.objs.size∧b ≠ H1.objs.size:=fun b hb =>
    ⟨by rw [hC];exact Nat.ne_of_lt (Nat.lt_succ_of_lt (Nat.lt_succ_of_lt hb)),Nat.ne_of_lt hb,by rw [hD];exact Nat.ne_of_lt (Nat.lt_succ_of_lt hb)⟩
  have old:∀ b o,h₁.get? b = some o→h₂.get? b = some o:=fun b o e =>
    hsb₂.extBut b o (below b (Heap.lt_size e)).1 (Heap.get?_push_of_some _ (hH2 ▸ Heap.get?_push_of_some _ (hH1 ▸ Heap.get?_push_of_some _ e)))
  have hit:h₂.IsListIter h₁.objs.size ax 0 :=
    ⟨_,hsb₂.extBut _ _ hIC (Heap.get?_push_of_some _ (hH2 ▸ Heap.get?_push_of_some _ (hH1 ▸ Heap.get?_push_size _ rfl))),rfl,rfl⟩
  have hacc:OwnL h₂ H1.objs.size #[]:=⟨_,hsb₂.extBut _ _ hDC (Heap.get?_push_of_some _ (hH2 ▸ Heap.get?_push_size _ rfl)),rfl,rfl,_,rfl⟩
  have loop:∀ s₂:Shared,s₂ = { s with heap:=h₂,toks:=t₁ + ([]:List (Str × Value)).length } →
      codeAny C.M X.A (.compLoop (.ListComp elt [⟨target,iter,[],0⟩] cscope pos) 0 (.ref h₁.objs.size) (.ref H1.objs.size) (compEnv cscope H2.objs.size X.env))
        (RR (.ref H1.objs.size) (compEnv cscope H2.objs.size X.env)) s₂:=by
    rintro s₂ rfl
    refine compLoop_go (fun k s'=>∃ h tk m i ys,s' = { s with heap:=h,toks:=tk }∧h.IsListIter h₁.objs.size ax i∧OwnL h H1.objs.size ys∧h.Ns H2.objs.size m∧RdL h ys.toList (es.take i)∧i ≤ es.length∧k = es.length + 1 - i ∧
      ∀ b o,h₁.get? b = some o→h.get? b = some o) ?_ (es.length + 1) ⟨h₂,_,_,0,#[],rfl,hit,hacc,hns₂,.nil,Nat.zero_le _,rfl,old⟩
    rintro k s' ⟨h,tk,m,i,ys,rfl,hit',hacc',hns',hys,hi,rfl,hk⟩
    have hl':h.IsList ax vs.toArray:=⟨ol,hk _ _ hol,hol'⟩
    have iI:∀ o xs n,h.get? h₁.objs.size = some o→o.data ≠ .seq xs n:=fun o xs n q w=>by
      obtain ⟨o',q1,_,q2⟩:=hit'
      rw [q1] at q;cases q;rw [q2] at w;cases w
    have hlen:vs.length = es.length:=by rw [hrd.length,mapO_len hm]
    cases hv:vs.toArray[i]? with
    | none =>
      have hle:es.length ≤ i:=by
        have:vs.toArray.size ≤ i:=by simpa using hv
        rw [List.size_toArray] at this;lia
      refine wpAny_pyNext_list_end hhd hit' hl' hv fun h₃ he₃=>?_
      have k1:∀ b o,b ≠ h₁.objs.size→h.get? b = some o→h₃.get? b = some o:=he₃
      rw [List.take_of_length_le hle] at hys
      obtain ⟨od,d1,d2,d3,nd,d4⟩:=hacc'
      exact hRR H1.objs.size H2.objs.size h₃ tk m ys.toList (by rw [hD];lia) (by rw [hC];lia) hDC (hns'.extBut he₃ (Ne.symm hIC)) ⟨od,k1 _ _ hDI d1,d2,d3,nd,by simpa using d4⟩ (hys.but iI k1)
        fun b o e=>k1 _ _ (below b (Heap.lt_size e)).2.1 (hk b o e)
    | some v =>
      have hlt:i < es.length:=by
        have:=(Array.getElem?_eq_some_iff.mp hv).1
        rw [List.size_toArray] at this;lia
      refine wpAny_pyNext_list_item hit' hl' hv fun h₃ hit₃ hs₃=>?_
      have k3:∀ b o,b ≠ h₁.objs.size→h.get? b = some o→h₃.get? b = some o:=fun b o hb e=>(hs₃.2 b hb).trans e
      have hdi:i < ds.length:=by rw [← mapO_len hm];exact hlt
      obtain ⟨v',w1,w2⟩:=hrd.get (k:=i) (d:=ds[i]) (by simp [hdi])
      have:v = v':=by
        have hv':vs[i]? = some v:=by simpa using hv
        rw [w1] at hv';cases hv';rfl
      subst this
      obtain ⟨d',g1,g2⟩:=mapO_get hm i _ (show ds[i]? = some ds[i] by simp [hdi])
      have rv:Rd h₃ v ds[i]:=(w2.up (.of_keeps hk)).but iI k3
      refine hgo _ _ _ _ _ _ _ _ _ _ hit₃ rv g1 ?_
      have hns₃:=hns'.sameBut hs₃ (Ne.symm hIC)
      refine hb _ _ _ _ _ _ _ _ _ _ hhd hns₃ rv g1 fun y h₄ tk₄ m₄ hns₄ k4 ry=>?_
      obtain ⟨oC,eC,pC,c1,c2,c3⟩:=hns₃
      have hl4:OwnL h₄ H1.objs.size ys:=by
        obtain ⟨od,d1,d2,d3,nd,d4⟩:=hacc'
        exact ⟨od,k4 _ _ hDC (k3 _ _ hDI d1),d2,d3,nd,d4⟩
      have rys:RdL h₄ ys.toList (es.take i):=(hys.but iI k3).but (fun o xs n q w=>by
        have q':h₃.get? H2.objs.size = some o:=q
        rw [c1] at q';cases q';rw [c2] at w;cases w) k4
      refine own_append (s:={ s with heap:=h₄,toks:=tk₄ }) hl4 (fun h₅ hl₅ hs₅=>?_) ?_
      · have k5:∀ b o,b ≠ H1.objs.size→h₄.get? b = some o→h₅.get? b = some o:=fun b o hb e=>(hs₅.2 b hb).trans e
        have cl:∀ o,h₄.get? H1.objs.size = some o→o.cls = .type "list":=fun o q=>by
          obtain ⟨od,d1,d2,_⟩:=hl4
          rw [d1] at q;cases q;exact d2
        have hl6:lf d' = true:=by
          have e2:=lfs_take 1 (es.drop i) (by
            have:=hlf
            rw [← List.take_append_drop i es,lfs_append,Bool.and_eq_true] at this
            exact this.2)
          rw [List.drop_eq_getElem_cons hlt] at e2
          have e3:es[i] = d':=by rw [List.getElem?_eq_getElem hlt] at g2;cases g2;rfl
          rw [e3] at e2
          simpa [lfs] using e2
        refine ⟨es.length + 1 - (i + 1),by lia,h₅,tk₄,m₄,i + 1,ys.push y,rfl,?_,hl₅,hns₄.sameBut hs₅ (Ne.symm hDC),?_,hlt,rfl,fun b o e=>?_⟩
        · exact (hit₃.at fun o e=>k4 _ o hIC e).at fun o e=>k5 _ o (Ne.symm hDI) e
        · have e3:es.take (i + 1) = es.take i ++ [d']:=by rw [List.take_add_one,g2];rfl
          rw [e3,show (ys.push y).toList = ys.toList ++ [y] by simp]
          exact (rys.but_list cl k5 (lfs_take i es hlf)).append (.cons (ry.but_list cl k5 hl6) .nil)
        · exact k5 _ _ (below b (Heap.lt_size e)).2.2 (k4 _ _ (below b (Heap.lt_size e)).1 (k3 _ _ (below b (Heap.lt_size e)).2.1 (hk b o e)))
      · have:=rys.length
        rw [Array.length_toList,List.length_take] at this
        rw [this]
        have:ds.length = es.length:=(mapO_len hm).symm
        exact small_fits (by lia)
  exact codeAny_compStart_list (loop _ rfl) (wpAny_pyIter_listiter hit (loop _ rfl))
theorem SN.comp {target iter elt:Expr} {cscope:Scope} {pos:Pos} {f:Store→Res PyData} {g:PyData→Option PyData} (hf:SE C S iter f) (hb:CB C cscope target elt g) (hgo:CG C target g)
    (hfree:∀ y ∈ cscope.names,y.2 ≠ .free) (hcell:∀ y ∈ cscope.names,y.2 ≠ .cell) (hkind:cscope.kind = .function) (hnames:∀ y ∈ cscope.names,y.2 = .local→cscope.names.lookup y.1 = some .local)
    (hs:∀ env x,foldedSetIterable iter env x = pure x:=by intro _ _;rfl) :
    SN C S (.ListComp elt [⟨target,iter,[],0⟩] cscope pos) (fun σ=>bnd (f σ) fun d=>lft (compD g d)):=fun X hX σ s Q E r hr I post=>by
  refine wpAny_ListComp hfree hkind hnames (hf.then hX I hr (fun d v h₁ t₁ _ k1 x1 I1 r1=>?_) (fun t x h' tk e1 x1 x2=>by subst e1;exact post x h' tk x1 x2)) (hs _)
  obtain ⟨es,e1,rfl⟩:=lft_some k1
  obtain ⟨ds,rfl,hn,hm,hlf⟩:=compD_some e1
  obtain ⟨ax,vs,rfl,hl,hrd⟩:=r1.list_inv
  refine comp_block (s:=s) (RR:=fun acc cenv r s'=>∃ m,s'.heap.Ns cenv.locals m∧∀ h',Heap.SameBut cenv.locals s'.heap h' →
      match r with | .ok _=>Q acc { s' with heap:=h' } | .error x=>wpAny C.M X.A (passOn "comprehension.variables-let-go" x cenv) Q E { s' with heap:=h' }) hb hgo hcell hkind hX.room.hd I1 hl hrd hn hm hlf ?_
  intro D K h₂ tk m' vs' hD hK hDK hns hO hR hk
  refine ⟨m',hns,fun h' hs'=>?_⟩
  obtain ⟨oC,eC,pC,c1,c2,c3⟩:=id hns
  have k2:∀ b o,b ≠ K→h₂.get? b = some o→h'.get? b = some o:=fun b o hb e=>(hs'.2 b hb).trans e
  have kk:∀ b o,h₁.get? b = some o→h'.get? b = some o:=fun b o e=>k2 _ _ (Nat.ne_of_lt (Nat.lt_of_lt_of_le (Heap.lt_size e) hK)) (hk b o e)
  obtain ⟨od,d1,d2,d3,nd,d4⟩:=hO
  have fD:=I1.fresh hD
  exact post D vs' h' tk (x1.trans (.of_keeps x1.1 kk)) ⟨od,k2 _ _ hDK d1,d2,d3,nd,d4⟩ (hR.but (fun o xs n q w=>by
    have q':h₂.get? K = some o:=q
    rw [c1] at q';cases q';rw [c2] at w;cases w) k2) fD.1 fD.2.1
theorem SX.ownComp {x:Str} {px spos:Pos} {target iter elt:Expr} {cscope:Scope} {pos:Pos} {i:Nat} {f:Store→Res PyData} {g:PyData→Option PyData} (hi:SlotAt S i x) (hf:SE C S iter f) (hb:CB C cscope target elt g) (hgo:CG C target g)
    (hfree:∀ y ∈ cscope.names,y.2 ≠ .free) (hcell:∀ y ∈ cscope.names,y.2 ≠ .cell) (hkind:cscope.kind = .function) (hnames:∀ y ∈ cscope.names,y.2 = .local→cscope.names.lookup y.1 = some .local)
    (hsw:∀ X,Fits S X→swapsWith (.ListComp elt [⟨target,iter,[],0⟩] cscope pos) (some (.Name x px)) spos.line X.env = pure true)
    (hs:∀ env x,foldedSetIterable iter env x = pure x:=by intro _ _;rfl) :
    SX C S (.Assign [.Name x px] (.ListComp elt [⟨target,iter,[],0⟩] cscope pos) spos) (fun σ=>ebind (bnd (f σ) fun d=>lft (compD g d)) σ fun ds=>obind (ownV i ds σ) fun σ'=>some (σ',.nxt)):=fun X hX σ s Q E o ho I hE post=>by
  rw [exec_Assign_Name_used _ _ _ _ (hsw X hX)]
  refine wpAny_bind (wpAny_standAt (wpAny_bind ?_))
  show wpAny _ _ (do let _ ← comprehension (.ListComp elt [⟨target,iter,[],0⟩] cscope pos) cscope X.env _ (newList []) false (eval iter X.env) (some (PySem.assign (Expr.Name x px) X.env))) _ _ s
  refine wpAny_bind (wpAny_mono (wpAny_comprehension_use (Q:=fun _ s'=>Q .next s') rfl (hs _) hfree hkind hnames ?_) (fun _ s' hq=>wpAny_pure (wpAny_pure hq)) fun _ _ e=>e)
  rcases ebind_some ho with ⟨t,e1,e2⟩ | ⟨es,e1,e2⟩
  · subst e2
    exact hf.then hX I e1 (fun d v h₁ t₁ _ k1 x1 I1 r1=>by obtain ⟨_,_,q⟩:=lft_some k1;cases q) fun t' x h' tk e1 x1 x2=>by cases e1;exact post x h' tk (I.ext x1) x2
  · refine hf.then hX I e1 (fun d v h₁ t₁ _ k1 x1 I1 r1=>?_) (fun t x h' tk e1 x1 x2=>by cases e1)
    obtain ⟨es',e1,q⟩:=lft_some k1
    cases q
    obtain ⟨σ',e3,e4⟩:=obind_some e2
    cases e4
    obtain ⟨ds,rfl,hn,hm,hlf⟩:=compD_some e1
    obtain ⟨ax,vs,rfl,hl,hrd⟩:=r1.list_inv
    refine comp_block (s:=s) (RR:=fun acc cenv r s'=>match r with
      | .ok _=>wpAny C.M X.A (PySem.assign (Expr.Name x px) X.env acc) (fun _ s''=>∃ m,s''.heap.Ns cenv.locals m∧∀ h',Heap.SameBut cenv.locals s''.heap h'→Q .next { s'' with heap:=h' }) E s'
      | .error x=>∃ m,s'.heap.Ns cenv.locals m∧∀ h',Heap.SameBut cenv.locals s'.heap h'→wpAny C.M X.A (passOn "comprehension.variables-let-go" x cenv) (fun _ s'=>Q .next s') E { s' with heap:=h' }) hb hgo hcell hkind hX.room.hd I1 hl hrd hn hm hlf ?_
    intro D K h₂ tk m' vs' hD hK hDK hns hO hR hk
    have fD:=I1.fresh hD
    have fK:=I1.fresh hK
    have I2:=I1.ext (.of_keeps I1.stays hk)
    refine wpAny_assign_Name ?_
    refine store_own (s:={ s with heap:=h₂,toks:=tk }) hX I2 hi e3 hO hR fD.1 fD.2.1 fun h₃ t₃ I₃ k₃=>?_
    have hns₃:h₃.Ns K m':=hns.at' fun o e=>k₃ _ _ (Ne.symm fK.2.2.1) e
    refine ⟨m',hns₃,fun h' hs'=>?_⟩
    obtain ⟨oC,eC,pC,c1,c2,c3⟩:=id hns₃
    refine post h' t₃ (I₃.other fK.2.1 fK.1 (fun o xs n q w=>by
      have q':h₃.get? K = some o:=q
      rw [c1] at q';cases q';rw [c2] at w;cases w) fK.2.2.1 fK.2.2.2 fun b o hb e=>(hs'.2 b hb).trans e)
end
end Mine
end
section
set_option tactic.hygienic false
open PySem PySem.W PyProof.Rows PySem.Spec PySem.Calls
namespace Mine
section
variable {C:Cx} {S:Sh}
theorem SN.se {e:Expr} {f:Store→Res (List PyData)} (h:SN C S e f):SE C S e (fun σ=>bnd (f σ) fun ds=>ret' (.list ds)):=fun X hX σ s Q E r hr I post=>by
  rcases bnd_some hr with ⟨t,e1,e2⟩ | ⟨ds,e1,e2⟩
  · subst e2
    exact h X hX σ s Q E _ e1 I post
  · cases e2
    exact h X hX σ s Q E _ e1 I fun a vs h' tk x l r _ _=>post _ h' tk x (.of_list l.isList r)
noncomputable def falseD (d:PyData):Option PyData:=some (.tuple [.bool false,d])
theorem CB.falses {scope:Scope} {x:Str} {px pe p1 p2:Pos} {k1 k2:Nat} (hk:scope.kind = .function) (hl:scope.names.lookup x = some .local) (hd:(x == ("__debug__":Str)) = false) :
    CB C scope (.Name x px) (.Tuple [.Constant (.bool false) k1 p1,.Name x p2] k2 pe) falseD:=fun A env K m s v d d' Q E hh hn hr hg post=>by
  cases hg
  refine wpAny_assign_Name (wpAny_storeName_local hl hn (fun h₁ hn₁ hs₁=>?_) (by simp [compEnv,hk]))
  obtain ⟨oL,es,ep,hL,hLd,_⟩:=hn
  have k1:∀ b o,b ≠ K→s.heap.get? b = some o→h₁.get? b = some o:=fun b o hb e=>(hs₁.2 b hb).trans e
  have hr1:Rd h₁ v d:=hr.but (fun o xs n q w=>by
    have q':s.heap.get? K = some o:=q
    rw [hL] at q';cases q';rw [hLd] at w;cases w) k1
  refine Tuple_ (args_cons (wpAny_Constant_bool ?_) rfl)
  refine args_cons (wpAny_Name (wpAny_loadName_local (env:=compEnv scope K env) (v:=v) hk hl hn₁ (if_pos rfl) ?_) hd) rfl
  refine args_nil ?_
  have x1:∀ b o,h₁.get? b = some o→(h₁.push { cls:=.type "tuple",data:=.seq #[.bool false,v] }).get? b = some o:=fun b o e=>Heap.get?_push_of_some _ e
  refine wpAny_newObj_type (post _ _ _ _ (hn₁.keeps x1) (fun b o hb e=>x1 b o (k1 b o hb e)) (.tuple_at (Heap.get?_push_size _ rfl) rfl rfl (vs:=[.bool false,v]) (.cons (.bool false) (.cons (hr1.up (.of_keeps x1)) .nil)))) ?_
  show 2 ≤ sizeLine
  rw [sizeLine_eq];lia
theorem CG.name {x:Str} {p:Pos} {g:PyData→Option PyData}:CG C (.Name x p) g:=fun A s I l i v d d' Q E _ _ _ hq=>wpAny_of_eq (a:=()) (by rfl) hq
noncomputable def backD (d:PyData):Option PyData:=obind (tupOf d) fun l=>match l with
  | [a,b,c,e]=>obind (intD b) fun b=>obind (intD c) fun c=>obind (intD e) fun e=>some (.tuple [a,.int (b - 1),.int (c - 1),.int (e - 1)])
  | _=>none
theorem backD_some {d e:PyData} (h:backD d = some e):∃ a b c f,d = .tuple [a,.int b,.int c,.int f]∧e = .tuple [a,.int (b - 1),.int (c - 1),.int (f - 1)]:=by
  obtain ⟨l,h1,h⟩:=obind_some h
  obtain rfl:=tupOf_some h1
  rcases l with _ | ⟨a,_ | ⟨b,_ | ⟨c,_ | ⟨g,_ | ⟨_,_⟩⟩⟩⟩⟩
  all_goals first | exact nomatch (show (none:Option PyData) = some e from h) | skip
  obtain ⟨b,h2,h⟩:=obind_some (show obind (intD b) (fun b=>obind (intD c) fun c=>obind (intD g) fun g=>some (PyData.tuple [a,.int (b - 1),.int (c - 1),.int (g - 1)])) = some e from h)
  obtain ⟨c,h3,h⟩:=obind_some h
  obtain ⟨g,h4,h⟩:=obind_some h
  obtain rfl:=intD_some h2
  obtain rfl:=intD_some h3
  obtain rfl:=intD_some h4
  exact ⟨a,b,c,g,rfl,(Option.some.inj h).symm⟩
theorem CG.back {es:List Expr} {k:Nat} {p:Pos}:CG C (.Tuple es k p) backD:=fun A s I l i v d d' Q E hit hr hg hq=>by
  obtain ⟨a,b,c,f,rfl,rfl⟩:=backD_some hg
  obtain ⟨t,vs,rfl,_,_⟩:=hr.tuple_inv
  exact wpAny_letOwnedTupleGo_listiter hit hq
theorem CB.back {scope:Scope} {x1 x2 x3 x4:Str} {p1 p2 p3 p4 p5 q0 q1 q2 q3 q4 q5 q6 q7:Pos} {o1 o2 o3:Pos} {k0 k1 k2 k3 k4:Nat} (hk:scope.kind = .function)
    (h1:scope.names.lookup x1 = some .local) (h2:scope.names.lookup x2 = some .local) (h3:scope.names.lookup x3 = some .local) (h4:scope.names.lookup x4 = some .local)
    (n12:x1 ≠ x2) (n13:x1 ≠ x3) (n14:x1 ≠ x4) (n23:x2 ≠ x3) (n24:x2 ≠ x4) (n34:x3 ≠ x4)
    (d1:(x1 == ("__debug__":Str)) = false) (d2:(x2 == ("__debug__":Str)) = false) (d3:(x3 == ("__debug__":Str)) = false) (d4:(x4 == ("__debug__":Str)) = false) :
    CB C scope (.Tuple [.Name x1 p1,.Name x2 p2,.Name x3 p3,.Name x4 p4] k0 p5)
      (.Tuple [.Name x1 q0,.BinOp (.Name x2 q1) .Sub (.Constant (.int 1) k1 q2) o1,.BinOp (.Name x3 q3) .Sub (.Constant (.int 1) k2 q4) o2,.BinOp (.Name x4 q5) .Sub (.Constant (.int 1) k3 q6) o3] k4 q7) backD:=fun A env K m s v dd d' Q E hh hn hr hg post=>by
  obtain ⟨da,b,c,f,rfl,rfl⟩:=backD_some hg
  obtain ⟨t,vs,rfl,ht,hrd⟩:=hr.tuple_inv
  obtain ⟨v1,ws,rfl,ra,hrd⟩:=hrd.cons_inv
  obtain ⟨v2,ws,rfl,rb,hrd⟩:=hrd.cons_inv
  obtain ⟨v3,ws,rfl,rc,hrd⟩:=hrd.cons_inv
  obtain ⟨v4,ws,rfl,rf,hrd⟩:=hrd.cons_inv
  obtain rfl:=hrd.nil_inv
  obtain ⟨t2,rfl⟩:=rb.int_inv
  obtain ⟨t3,rfl⟩:=rc.int_inv
  obtain ⟨t4,rfl⟩:=rf.int_inv
  have np:((compEnv scope K env).scope.kind == .class || ((compEnv scope K env).scope.kind == .module && (compEnv scope K env).locals != (compEnv scope K env).globals)) = false:=by simp [compEnv,hk]
  refine assign_Tuple_tuple hh ht rfl rfl fun h₁ he₁=>?_
  have k1:∀ b o,s.heap.get? b = some o→h₁.get? b = some o:=fun b o e=>he₁ b o (Nat.ne_of_lt (Heap.lt_size e)) e
  have n1:=hn.keeps k1
  refine assignInOrder_cons (wpAny_assign_Name (wpAny_storeName_local h1 n1 (fun h₂ n2 s2=>?_) np))
  refine assignInOrder_cons (wpAny_assign_Name (wpAny_storeName_local h2 n2 (fun h₃ n3 s3=>?_) np))
  refine assignInOrder_cons (wpAny_assign_Name (wpAny_storeName_local h3 n3 (fun h₄ n4 s4=>?_) np))
  refine assignInOrder_cons (wpAny_assign_Name (wpAny_storeName_local h4 n4 (fun h₅ n5 s5=>?_) np))
  refine assignInOrder_nil ?_
  have k5:∀ b o,b ≠ K→s.heap.get? b = some o→h₅.get? b = some o:=fun b o hb e=>(s5.2 b hb).trans ((s4.2 b hb).trans ((s3.2 b hb).trans ((s2.2 b hb).trans (k1 b o e))))
  obtain ⟨oL,es,ep,hL,hLd,_⟩:=hn
  have ra5:Rd h₅ v1 da:=ra.but (fun o xs n q w=>by
    have q':s.heap.get? K = some o:=q
    rw [hL] at q';cases q';rw [hLd] at w;cases w) k5
  have g1:(fun y=>if y = x4 then some (Value.int f t4) else if y = x3 then some (Value.int c t3) else if y = x2 then some (Value.int b t2) else if y = x1 then some v1 else m y) x1 = some v1:=(if_neg n14).trans ((if_neg n13).trans ((if_neg n12).trans (if_pos rfl)))
  have g2:(fun y=>if y = x4 then some (Value.int f t4) else if y = x3 then some (Value.int c t3) else if y = x2 then some (Value.int b t2) else if y = x1 then some v1 else m y) x2 = some (.int b t2):=(if_neg n24).trans ((if_neg n23).trans (if_pos rfl))
  have g3:(fun y=>if y = x4 then some (Value.int f t4) else if y = x3 then some (Value.int c t3) else if y = x2 then some (Value.int b t2) else if y = x1 then some v1 else m y) x3 = some (.int c t3):=(if_neg n34).trans (if_pos rfl)
  have g4:(fun y=>if y = x4 then some (Value.int f t4) else if y = x3 then some (Value.int c t3) else if y = x2 then some (Value.int b t2) else if y = x1 then some v1 else m y) x4 = some (.int f t4):=if_pos rfl
  refine Tuple_ (args_cons (wpAny_Name (wpAny_loadName_local (env:=compEnv scope K env) hk h1 n5 g1 ?_) d1) rfl)
  refine args_cons (wpAny_BinOp (wpAny_Name (wpAny_loadName_local (env:=compEnv scope K env) hk h2 n5 g2 (wpAny_Constant_int (P.sub_int ?_))) d2)) rfl
  refine args_cons (wpAny_BinOp (wpAny_Name (wpAny_loadName_local (env:=compEnv scope K env) hk h3 n5 g3 (wpAny_Constant_int (P.sub_int ?_))) d3)) rfl
  refine args_cons (wpAny_BinOp (wpAny_Name (wpAny_loadName_local (env:=compEnv scope K env) hk h4 n5 g4 (wpAny_Constant_int (P.sub_int ?_))) d4)) rfl
  refine args_nil ?_
  refine wpAny_newObj_type (post _ _ _ _ (n5.keeps fun b o e=>Heap.get?_push_of_some _ e) (fun b o hb e=>Heap.get?_push_of_some _ (k5 b o hb e))
    (.tuple_at (Heap.get?_push_size _ rfl) rfl rfl (vs:=[v1,.int (b - 1) _,.int (c - 1) _,.int (f - 1) _]) (.cons (ra5.up (.of_keeps fun b o e=>Heap.get?_push_of_some _ e)) (.cons (.int _ _) (.cons (.int _ _) (.cons (.int _ _) .nil)))))) ?_
  show 4 ≤ sizeLine
  rw [sizeLine_eq];lia
theorem adjust_last (n:Nat) (h:1 ≤ n):Builtin.Slice.sliceAdjust none (some (-1)) 1 (n:Int) = (0,((n - 1:Nat):Int)):=by
  unfold Builtin.Slice.sliceAdjust
  have h1:¬ ((1:Int) < 0):=by lia
  have h2:((-1:Int) < 0):=by lia
  simp only [h1,h2,if_true,if_false]
  congr 1
  lia
theorem places_last (n:Nat):Builtin.Slice.slicePlaces 0 ((n:Nat):Int) 1 = n:=by
  unfold Builtin.Slice.slicePlaces
  have h1:(1:Int) > 0:=by lia
  simp only [h1,if_true,Int.ediv_one]
  split <;> lia
variable {A:Around} {s:Shared} {E:Value→Shared→Prop}
theorem sliceApplied_last {sl:Addr} {n:Nat} {u:Tok} {Q:Int × Int × Nat→Shared→Prop} (hs:s.heap.IsSliceOf sl .none (.int (-1) u) .none) (hn:1 ≤ n) (h:Q (0,1,n - 1) s) :
    wpAny C.M A (Builtin.Slice.sliceApplied (.ref sl) (pure (n:Int))) Q E s:=by
  obtain ⟨os,hos,hcs,hds⟩:=id hs
  unfold Builtin.Slice.sliceApplied Builtin.Slice.sliceFields
  refine wpAny_bind (wpAny_bind (wpAny_field hos hds (x:=.none) rfl (wpAny_bind (wpAny_field hos hds (x:=.int (-1) u) rfl (wpAny_bind (wpAny_field hos hds (x:=.none) rfl (wpAny_pure ?_)))))))
  refine wpAny_bind (slicePart_none ?_)
  show wpAny _ _ (if ((1:Int) == 0) = true then _ else _) _ _ s
  rw [if_neg (by decide)]
  refine wpAny_bind (slicePart_none (wpAny_bind (slicePart_int (wpAny_bind (wpAny_pure ?_)))))
  show wpAny _ _ (match Builtin.Slice.sliceAdjust none (some (-1)) 1 (n:Int) with | (lo,hi)=>pure (lo,(1:Int),Builtin.Slice.slicePlaces lo hi 1)) _ _ s
  rw [adjust_last n hn]
  show wpAny _ _ (pure ((0:Int),(1:Int),Builtin.Slice.slicePlaces 0 (((n - 1:Nat)):Int) 1)) _ _ s
  rw [places_last (n - 1)]
  exact wpAny_pure h
theorem pick_last (xs:Array Value):((List.range (xs.size - 1)).filterMap fun (k:Nat)=>xs[((0:Int) + (k:Int) * 1).toNat]?).toArray = (xs.toList.take (xs.size - 1)).toArray:=by
  have e:(fun (k:Nat)=>xs[((0:Int) + (k:Int) * 1).toNat]?) = fun k=>xs[0 + k]?:=by
    funext k
    have:((0:Int) + (k:Int) * 1).toNat = 0 + k:=by lia
    rw [this]
  rw [e]
  have:=pick_run xs 0 (xs.size - 1)
  rw [List.filterMap_map] at this
  have e2:((fun x=>xs[x]?) ∘ fun x=>0 + x) = fun k=>xs[0 + k]?:=rfl
  rw [e2] at this
  rw [this,List.drop_zero]
theorem getItem_tuple_last {t sl:Addr} {items:Array Value} {u:Tok} {Q:Value→Shared→Prop} (ht:IsTup s.heap t items) (hs:s.heap.IsSliceOf sl .none (.int (-1) u) .none) (h1:1 ≤ items.size)
    (h:Q (.ref s.heap.objs.size) { s with heap:=s.heap.push { cls:=.type "tuple",data:=.seq (items.toList.take (items.size - 1)).toArray } }) (hsz:items.size ≤ sizeLine) :
    wpAny C.M A (getItem (.ref t) (.ref sl)) Q E s:=by
  have hdrop:sizeOk (.seq (items.toList.take (items.size - 1)).toArray):=by
    show (items.toList.take (items.size - 1)).toArray.size ≤ sizeLine
    rw [List.size_toArray,List.length_take,Array.length_toList]
    lia
  obtain ⟨os,hos,hcs,hds⟩:=id hs
  have hTs:s.TypeIs (.ref sl) "slice":=⟨os,hos,hcs⟩
  unfold getItem
  try with_reducible refine wpAny_holding ?_
  first | refine wpAny_bind (wpAny_pure ?_) | skip
  refine wpAny_bind (wpAny_sequenceKey ht.typeIs (by decide) ?_)
  refine wpAny_bind (wpAny_callSpecial?_slot (name:=Str.ofString "__getitem__") ht.typeIs slot_tuple_getitem
    (wpAny_call_entry slot_tuple_getitem ht.typeIs entry_tuple_getitem ?_ (args_tuple_getitem _ _)))
  show wpAny _ _ (Builtin.Tuple.tupleItemsOf (.ref t) >>= _) _ _ s
  refine wpAny_bind (tupleItemsOf_ ht ?_)
  refine wpAny_bind (wpAny_typeOf hTs ?_)
  rw [if_pos (by decide)]
  refine wpAny_bind (sliceApplied_last hs h1 ?_)
  have hno:¬ (((0:Int) == 0 && (1:Int) == 1 && (items.size - 1) == items.size) = true):=by
    have:((items.size - 1) == items.size) = false:=by rw [beq_eq_false_iff_ne];lia
    rw [this];simp
  show wpAny _ _ (if ((0:Int) == 0 && (1:Int) == 1 && (items.size - 1) == items.size) = true then _ else _) _ _ s
  rw [if_neg hno,pick_last items]
  first
    | exact wpAny_bind (m:=Builtin.Tuple.tupleExact _) (wpAny_newObj_type (wpAny_pure ⟨_,rfl,wpAny_pure h⟩) hdrop)
    | exact wpAny_bind (m:=Builtin.Tuple.tupleExact _) (wpAny_newObj_type (wpAny_bind (wpAny_pure (wpAny_pure ⟨_,rfl,wpAny_pure h⟩))) hdrop)
    | exact wpAny_bind (wpAny_bind (m:=Builtin.Tuple.tupleExact _) (wpAny_newObj_type (wpAny_pure (wpAny_pure ⟨_,rfl,wpAny_pure h⟩)) hdrop))
    | exact wpAny_bind (wpAny_bind (m:=Builtin.Tuple.tupleExact _) (wpAny_newObj_type (wpAny_pure ⟨_,rfl,wpAny_pure h⟩) hdrop))
noncomputable def lastCut:PyData→Option PyData
  | .tuple ds=>if ds ≠ []∧ds.length ≤ 1000000 then some (.tuple (ds.take (ds.length - 1))) else none
  | _=>none
theorem lastCut_some {a d:PyData} (h:lastCut a = some d):∃ ds,a = .tuple ds∧(ds ≠ []∧ds.length ≤ 1000000)∧d = .tuple (ds.take (ds.length - 1)):=by
  unfold lastCut at h
  split at h
  · split at h
    · rename_i hn;cases h;exact ⟨_,rfl,hn,rfl⟩
    · cases h
  · cases h
theorem SE.cutLast {e:Expr} {p p' p1 p2:Pos} {k:Nat} {f:Store→Res PyData} (hf:SE C S e f) :
    SE C S (.Subscript e (.Slice none (some (.UnaryOp .USub (.Constant (.int 1) k p1) p2)) none p) p') (fun σ=>bnd (f σ) fun a=>lft (lastCut a)):=fun X hX σ s Q E r hr I post=>by
  refine Subscript_ (hf.then hX I hr (fun a va h₁ t₁ _ k1 x1 I1 r1=>?_) (fun t x h' tk e1 x1 x2=>by subst e1;exact post x h' tk x1 x2))
  obtain ⟨d,e1,rfl⟩:=lft_some k1
  obtain ⟨ds,rfl,hn,rfl⟩:=lastCut_some e1
  obtain ⟨t,vs,rfl,htu,hr⟩:=r1.tuple_inv
  refine wpAny_Slice (wpAny_pure ?_)
  show wpAny _ _ (eval (.UnaryOp .USub (.Constant (.int 1) k p1) p2) _) _ _ _
  refine wpAny_UnaryOp (wpAny_Constant_int (P.neg_int (wpAny_pure ?_)))
  dsimp only
  have hlen:vs.toArray.size = ds.length:=by rw [List.size_toArray,hr.length]
  have x2:=Ext.push I1.stays { cls:=.type "slice",data:=.fields #[.none,.int (-1) (t₁ + 1),.none] }
  have x3:=Ext.push x2.1 { cls:=.type "tuple",data:=.seq (vs.take (vs.length - 1)).toArray }
  have htu':=htu.keeps (h':=h₁.push { cls:=.type "slice",data:=.fields #[.none,.int (-1) (t₁ + 1),.none] }) fun b o e=>Heap.get?_push_of_some _ e
  refine tail_any (ops:=[_,_]) htu'.typeIs slot_tuple_getitem.lookup (getItem_tuple_last (u:=t₁ + 1) htu' ⟨_,Heap.get?_push_size _ rfl,rfl,rfl⟩ ?_ ?_ ?_) rfl
  · rw [hlen];exact List.length_pos_iff.mpr hn.1
  · refine post _ _ _ ((x1.trans x2).trans x3) (.tuple_at (Heap.get?_push_size _ rfl) rfl rfl (vs:=vs.take (vs.length - 1)) ?_)
    rw [hr.length]
    exact (hr.take _).ext (x2.trans x3)
  · rw [hlen];exact small_fits hn.2
end
end Mine
end
section
open PySem PySem.W PyProof.Rows PySem.Spec PySem.Calls
namespace Mine
section
variable {C:Cx} {S:Sh}
theorem own_setBack {A:Around} {s:Shared} {E:Value→Shared→Prop} {l:Addr} {items:Array Value} {k:Int} {t:Tok} {v:Value} {Q:Unit→Shared→Prop} (hO:OwnL s.heap l items) (h0:k < 0) (h1:-(items.size:Int) ≤ k) (hfit:-(2 ^ 63) ≤ k)
    (hQ:∀ h',OwnL h' l (items.setIfInBounds (k + items.size).toNat v)→Heap.SameBut l s.heap h'→Q () { s with heap:=h' }):wpAny C.M A (setItem (.ref l) (.int k t) v) Q E s:=by
  obtain ⟨o,ho,hc,hdn,n,hd⟩:=id hO
  have hl:s.heap.IsList l items:=hO.isList
  have hlt:(k + items.size).toNat < items.size:=by lia
  have hx:items[(k + items.size).toNat]? = some items[(k + items.size).toNat]:=Array.getElem?_eq_getElem hlt
  unfold setItem
  try with_reducible refine wpAny_holding ?_
  first | refine wpAny_bind (wpAny_pure ?_) | skip
  refine wpAny_bind (wpAny_sequenceKey hl.typeIs (by decide) ?_)
  refine wpAny_bind (wpAny_callSpecial?_slot (name:=Str.ofString "__setitem__") hl.typeIs slot_list_setitem
    (wpAny_call_entry slot_list_setitem hl.typeIs entry_list_setitem ?_ (args_list_setitem _ _ _)))
  show wpAny _ _ (Builtin.List.listSubscript? (.int k t) >>= _) _ _ s
  refine wpAny_bind (wpAny_listSubscript_int (fitsIndex_neg h0 hfit) ?_)
  clear hfit
  have hidx:=PySem.seqIndex_neg h0 h1
  obtain ⟨j,rfl⟩:∃ j:Nat,k = Int.negSucc j:=by
    cases k with
    | ofNat n=>exact absurd h0 (Int.not_lt.mpr (Int.natCast_nonneg n))
    | negSucc n=>exact ⟨n,rfl⟩
  show wpAny _ _ ((Builtin.List.listItems (.ref l) >>= fun xs=>pure ((seqIndex? (Int.negSucc j) xs.size).bind fun i=>xs[i]?.map (i,·))) >>= _) _ _ s
  refine wpAny_bind (wpAny_bind ?_)
  show wpAny _ _ (seqItems? (.ref l) >>= _) _ _ s
  refine wpAny_bind (wpAny_seqItems ho hd (wpAny_pure (wpAny_pure ?_)))
  rw [hidx]
  simp only [Option.bind_some,hx,Option.map_some]
  show wpAny _ _ (setSeqItemAt l (Int.negSucc j + items.size).toNat v >>= _) _ _ s
  obtain ⟨n',hd'⟩:=Obj.data_mapSeq hd (·.setIfInBounds (Int.negSucc j + items.size).toNat v)
  have hfin:OwnL (s.heap.update l (Obj.mapSeq (·.setIfInBounds (Int.negSucc j + items.size).toNat v))) l (items.setIfInBounds (Int.negSucc j + items.size).toNat v) :=
    ⟨_,Heap.get?_update_self _ ho (Obj.isFreed_of_seq hd'),(Obj.cls_mapSeq ..).trans hc,(Obj.dict_mapSeq ..).trans hdn,n',hd'⟩
  refine wpAny_bind (wpAny_setSeqItemAt ho hd ?_)
  first
    | exact wpAny_bind (wpAny_pure (wpAny_pure ⟨.none,rfl,wpAny_pure (hQ _ hfin (Heap.SameBut.update ..))⟩))
    | exact wpAny_pure ⟨.none,rfl,wpAny_pure (hQ _ hfin (Heap.SameBut.update ..))⟩
theorem RdL.set {h:Heap}:∀ {ds:List PyData} {vs:List Value},RdL h vs ds→∀ {v:Value} {d:PyData},Rd h v d→∀ n,RdL h (vs.set n v) (ds.set n d)
  | [],_,r,v,d,q,n=>by rw [r.nil_inv];simp;exact .nil
  | _ :: _,_,r,v,d,q,n=>by
    obtain ⟨v',vs',rfl,a,b⟩:=r.cons_inv
    cases n with
    | zero=>exact .cons q b
    | succ n=>exact .cons a (b.set q n)
theorem lfs_set:∀ (l:List PyData) (n:Nat) (d:PyData),lfs l = true→lf d = true→lfs (l.set n d) = true
  | [],_,_,_,_=>rfl
  | e :: l,0,d,h,hd=>by
    have h':(lf e && lfs l) = true:=h
    rw [Bool.and_eq_true] at h'
    show (lf d && lfs l) = true
    rw [h'.2,hd];rfl
  | e :: l,n + 1,d,h,hd=>by
    have h':(lf e && lfs l) = true:=h
    rw [Bool.and_eq_true] at h'
    show (lf e && lfs (l.set n d)) = true
    rw [h'.1,lfs_set l n d h'.2 hd];rfl
noncomputable def setLastV (i:Nat) (f:Store→Res PyData) (σ:Store):Option Out:=match σ.own with
  | none=>none
  | some (j,ds)=>if j = i∧ds ≠ [] then ebind (f σ) σ fun d=>if lf d then some ({ σ with own:=some (i,ds.set (ds.length - 1) d) },.nxt) else none else none
theorem SX.setLast {x:Str} {e:Expr} {p1 p2 p3 p4 p5:Pos} {k:Nat} {i:Nat} {f:Store→Res PyData} (hf:SE C S e f) (hi:SlotAt S i x) (hd:(x == ("__debug__":Str)) = false)
    (hw:∀ env,swapsWith e (some (.Subscript (.Name x p1) (.UnaryOp .USub (.Constant (.int 1) k p2) p3) p4)) p5.line env = pure false:=by intro _;rfl) :
    SX C S (.Assign [.Subscript (.Name x p1) (.UnaryOp .USub (.Constant (.int 1) k p2) p3) p4] e p5) (setLastV i f):=fun X hX σ s Q E o ho I hE post=>by
  have nx:X.names[i]? = some x:=by rw [hX.nm];exact hi.at_
  have nd:X.names.Nodup:=by rw [hX.nm];exact hi.nodup
  unfold setLastV at ho
  split at ho
  · cases ho
  · rename_i j ds ho'
    split at ho
    · rename_i hj
      obtain ⟨rfl,hne⟩:=hj
      refine wpAny_Assign_Subscript ?_ (hw _)
      rcases ebind_some ho with ⟨t,q1,q2⟩ | ⟨d,q1,q2⟩
      · subst q2
        exact hf X hX σ s _ E _ q1 I fun x h' tk x1 x2=>post x h' tk (I.ext x1) x2
      · refine hf X hX σ s _ E _ q1 I fun v h' tk x1 r=>?_
        split at q2
        · rename_i hlf
          cases q2
          have I1:=I.ext x1
          obtain ⟨m,F,hv,hO⟩:=id I1.loc
          obtain ⟨fr,lds,y,a,ws,e1,e2,l1,r1,e3,e4⟩:=hO j ds ho'
          rw [nx] at e1;cases e1
          refine ld (s:={ s with heap:=h',toks:=tk }) F e2 ?_ I.kind (by show X.scope.names.lookup x = _;rw [hX.sc];exact hi.loc) hd
          refine wpAny_UnaryOp (wpAny_Constant_int (P.neg_int ?_))
          have hpos:0 < ds.length:=List.length_pos_iff.mpr hne
          have hsz:ws.toArray.size = ds.length:=by rw [List.size_toArray,r1.length]
          refine own_setBack l1 (by lia) (by rw [hsz];lia) (by lia) fun h2 l2 sb=>?_
          refine post h2 _ ?_
          refine I1.own nd (ds':=ds.set (ds.length - 1) d) (vs':=ws.set (ds.length - 1) v) ho' nx ?_ ?_ sb (r1.set r _) (lfs_set _ _ _ lds hlf)
          · rw [← F.ns.eq_nsMap];exact e2
          · rw [hsz] at l2
            have:(-1 + (ds.length:Int)).toNat = ds.length - 1:=by lia
            rw [show ((-1:Int) + ((ds.length:Nat):Int)).toNat = ds.length - 1 from this] at l2
            have e5:(ws.set (ds.length - 1) v).toArray = ws.toArray.setIfInBounds (ds.length - 1) v:=by simp
            rw [e5];exact l2
        · cases q2
    · cases ho
end
end Mine
end
section
set_option tactic.hygienic false
open PySem PySem.W PyProof.Rows PySem.Spec PySem.Calls
namespace Mine
@[simp] noncomputable def dK (d:PyData):Store→Res PyData:=fun _=>ret' d
@[simp] noncomputable def aNil:Store→Res (List PyData):=fun _=>ret' []
@[simp] noncomputable def aCons (f:Store→Res PyData) (fs:Store→Res (List PyData)):Store→Res (List PyData):=fun σ=>bnd (f σ) fun d=>bnd (fs σ) fun ds=>ret' (d :: ds)
@[simp] noncomputable def dTup (f:Store→Res (List PyData)):Store→Res PyData:=fun σ=>bnd (f σ) tupD
@[simp] noncomputable def dLst (f:Store→Res (List PyData)):Store→Res PyData:=fun σ=>bnd (f σ) listD
@[simp] noncomputable def dBin (o:PyData→PyData→Option PyData) (f g:Store→Res PyData):Store→Res PyData:=fun σ=>bnd (f σ) fun a=>bnd (g σ) fun b=>lft (o a b)
@[simp] noncomputable def dCmp (o:PyData→PyData→Option Bool) (f g:Store→Res PyData):Store→Res PyData:=fun σ=>bnd (f σ) fun a=>bnd (g σ) fun b=>lft ((o a b).map .bool)
@[simp] noncomputable def tCmp (o:PyData→PyData→Option Bool) (f g:Store→Res PyData):Store→Res Bool:=fun σ=>bnd (f σ) fun a=>bnd (g σ) fun b=>lft (o a b)
@[simp] noncomputable def tChain (o o':PyData→PyData→Option Bool) (f g g':Store→Res PyData):Store→Res Bool :=
  fun σ=>bnd (f σ) fun a=>bnd (g σ) fun b=>bnd (lft (o a b)) fun c=>if c then bnd (g' σ) fun b'=>lft (o' b b') else ret' false
@[simp] noncomputable def tNot (f:Store→Res Bool):Store→Res Bool:=fun σ=>bnd (f σ) fun b=>ret' (!b)
@[simp] noncomputable def tAnd0:Store→Res Bool:=fun _=>ret' true
@[simp] noncomputable def tOr0:Store→Res Bool:=fun _=>ret' false
@[simp] noncomputable def tAnd (f g:Store→Res Bool):Store→Res Bool:=fun σ=>bnd (f σ) fun b=>if b then g σ else ret' false
@[simp] noncomputable def tOr (f g:Store→Res Bool):Store→Res Bool:=fun σ=>bnd (f σ) fun b=>if b then ret' true else g σ
@[simp] noncomputable def tPlain (f:Store→Res PyData):Store→Res Bool:=fun σ=>bnd (f σ) fun d=>lft (boolD d)
@[simp] noncomputable def dAnd2 (f g:Store→Res PyData):Store→Res PyData:=fun σ=>bnd (f σ) fun x=>bnd (lft (boolD x)) fun c=>if c then g σ else ret' (.bool false)
@[simp] noncomputable def dOr2 (f g:Store→Res PyData):Store→Res PyData:=fun σ=>bnd (f σ) fun x=>bnd (lft (boolD x)) fun c=>if c then ret' (.bool true) else g σ
@[simp] noncomputable def dIf (c:Store→Res Bool) (f g:Store→Res PyData):Store→Res PyData:=fun σ=>bnd (c σ) fun x=>if x then f σ else g σ
@[simp] noncomputable def dIdx (f g:Store→Res PyData):Store→Res PyData:=fun σ=>bnd (f σ) fun a=>bnd (g σ) fun b=>lft (itemD a b)
@[simp] noncomputable def pNo:Store→Res (Option Int):=fun _=>ret' none
@[simp] noncomputable def pOf (f:Store→Res PyData):Store→Res (Option Int):=fun σ=>bnd (f σ) fun d=>lft ((intD d).map some)
@[simp] noncomputable def dCut (f:Store→Res PyData) (fl fu:Store→Res (Option Int)):Store→Res PyData:=fun σ=>bnd (f σ) fun a=>bnd (fl σ) fun l=>bnd (fu σ) fun u=>lft (cutD a l u)
@[simp] noncomputable def dCall (Φ:Oracle) (n:Str) (fa:Store→Res (List PyData)):Store→Res PyData:=fun σ=>bnd (fa σ) fun ds=>Φ n ds
@[simp] noncomputable def dOn (g:PyData→Option PyData) (f:Store→Res PyData):Store→Res PyData:=fun σ=>bnd (f σ) fun a=>lft (g a)
@[simp] noncomputable def dMeth (g:PyData→List PyData→Option PyData) (f:Store→Res PyData) (fa:Store→Res (List PyData)):Store→Res PyData:=fun σ=>bnd (bnd (f σ) strOnly) fun a=>bnd (fa σ) fun ds=>lft (g a ds)
@[simp] noncomputable def dFrz {α:Type} (f:Store→α):Store→α:=fun σ=>f (frz σ)
@[simp] noncomputable def nLst (f:Store→Res (List PyData)):Store→Res (List PyData):=fun σ=>bnd (f σ) fun ds=>if ds.length ≤ 1000000 then ret' ds else none
@[simp] noncomputable def nComp (g:PyData→Option PyData) (f:Store→Res PyData):Store→Res (List PyData):=fun σ=>bnd (f σ) fun d=>lft (compD g d)
@[simp] noncomputable def dNew (f:Store→Res (List PyData)):Store→Res PyData:=fun σ=>bnd (f σ) fun ds=>ret' (.list ds)
@[simp] noncomputable def sNil:Store→Option Out:=fun σ=>some (σ,.nxt)
@[simp] noncomputable def sCons (f g:Store→Option Out):Store→Option Out:=fun σ=>sbind (f σ) g
@[simp] noncomputable def sAsg (i:Nat) (f:Store→Res PyData):Store→Option Out:=fun σ=>ebind (f σ) σ fun d=>obind (setV i d σ) fun σ'=>some (σ',.nxt)
@[simp] noncomputable def sOwn (i:Nat) (f:Store→Res (List PyData)):Store→Option Out:=fun σ=>ebind (f σ) σ fun ds=>obind (ownV i ds σ) fun σ'=>some (σ',.nxt)
@[simp] noncomputable def sAug (g:PyData→PyData→Option PyData) (i:Nat) (f:Store→Res PyData):Store→Option Out:=fun σ=>ebind (getV i σ) σ fun a=>ebind (f σ) σ fun b=>obind (g a b) fun d=>obind (setV i d σ) fun σ'=>some (σ',.nxt)
@[simp] noncomputable def sIte (c:Store→Res Bool) (f g:Store→Option Out):Store→Option Out:=fun σ=>ebind (c σ) σ fun x=>if x then f σ else g σ
@[simp] noncomputable def sBrk:Store→Option Out:=fun σ=>some (σ,.brk)
@[simp] noncomputable def sRet (f:Store→Res PyData):Store→Option Out:=fun σ=>ebind (f (frz σ)) (frz σ) fun d=>some (σ,.ret d)
@[simp] noncomputable def sUnp (is:List Nat) (f:Store→Res PyData):Store→Option Out:=fun σ=>ebind (f σ) σ fun d=>obind (tupOf d) fun ds=>obind (setVs is ds σ) fun σ'=>some (σ',.nxt)
@[simp] noncomputable def sSwp (ns:List (Str × Nat)) (f:Store→Res PyData):Store→Option Out:=fun σ=>ebind (f σ) σ fun d=>obind (tupOf d) fun ds=>obind (setVs (ns.map (·.2)).reverse ds.reverse σ) fun σ'=>some (σ',.nxt)
@[simp] noncomputable def sRaise (t:Str):Store→Option Out:=fun σ=>some (σ,.exc t)
@[simp] noncomputable def sTry (f:Store→Option Out) (fx:Store→Option PyData):Store→Option Out:=fun σ=>tryO (f σ) fx
@[simp] noncomputable def sFor (i:Nat) (f:Store→Res PyData) (g:Store→Option Out):Store→Option Out:=fun σ=>ebind (f σ) σ fun d=>forD i g σ d
noncomputable def bigN:Nat:=1000000
noncomputable def sWhile (c:Store→Res Bool) (f:Store→Option Out):Store→Option Out:=loopN c f bigN
@[simp] noncomputable def qUnit:Store→Option PyData:=fun _=>some (.tuple [])
@[simp] noncomputable def qName (i:Nat):Store→Option PyData:=fun σ=>match (frz σ).vs[i]? with | some (some d)=>some d | _=>none
structure Slot (S:Sh) (i:Nat) (x:Str):Prop where
  s:SlotAt S i x
  k:S.scope.kind = .function
  d:(x == ("__debug__":Str)) = false
noncomputable def IsFn (C:Cx) (n:Str):Prop:=∃ f o fd,C.mg n = some (.ref f)∧C.base.get? f = some o∧o.data = .func fd
noncomputable def fnNames:List Str:=["digit","hex_sign","octal_sign","backslash","is_gap","skip_gaps","comment_behind","skip_to_command","read_name","variable","brackets","braces","parts_until","bare_stops","is_expanded","word","command_at",
  "_law_closed","_law_read","_law_none_earlier","_law_alone","_law_script_right","_law_closers_right","_law_text_right"]
noncomputable def fnPlaces:List (Str × Nat):=[("digit",4),("hex_sign",6),("octal_sign",7),("backslash",8),("is_gap",9),("skip_gaps",10),("comment_behind",11),("skip_to_command",12),("read_name",13),("variable",14),("brackets",15),("braces",16),("parts_until",17),
  ("bare_stops",18),("is_expanded",19),("word",20),("command_at",21),("_law_closed",25),("_law_read",26),("_law_none_earlier",27),("_law_alone",28),("_law_script_right",29),("_law_closers_right",30),("_law_text_right",31)]
structure W (C:Cx):Prop where
  G:Glb C
  X:Exf C
  fns:∀ p ∈ fnPlaces,∃ f0 dV cdv,FnAt C p.1 f0 (paramsOf (stm p.2)) (bodyOf (stm p.2)) (scopeOf (stm p.2)) dV cdv∧(p.1 ≠ "command_at"→dV = .none)∧(p.1 = "command_at"→∃ T oT n,dV = .ref T∧C.base.get? T = some oT∧oT.data = .seq #[.bool false] n)
  no:∀ n ∈ (["len","ord","chr","tuple","range"]:List Str),C.mg n = none
theorem W.fn {C:Cx} (w:W C):∀ n ∈ fnNames,IsFn C n:=fun n hn=>by
  have h:n ∈ fnPlaces.map (·.1):=hn
  obtain ⟨p,hp,rfl⟩:=List.mem_map.mp h
  obtain ⟨f0,dV,cdv,h,_⟩:=w.fns p hp
  obtain ⟨fo,_,_,_,_,_,h1,h2⟩:=h.at_
  exact ⟨f0,fo,_,h.name,h1,h2⟩
section
variable {C:Cx} {S:Sh}
theorem Slot.e {i:Nat} {x:Str} {p:Pos} (h:Slot S i x):SE C S (.Name x p) (getV i):=SE.name h.s.at_ h.k h.s.loc h.d
theorem slot2 {i j:Nat} {x y:Str} (h:SlotAt S i x) (h':SlotAt S j y):∀ q ∈ [(x,i),(y,j)],SlotAt S q.2 q.1:=fun q hq=>by
  rcases List.mem_cons.mp hq with rfl | hq
  · exact h
  · rcases List.mem_cons.mp hq with rfl | hq
    · exact h'
    · cases hq
theorem Slot.nd {i:Nat} {x:Str} (h:Slot S i x):S.names.Nodup:=h.s.nodup
theorem SE.callW {Φ:Oracle} (w:W C) (hΦ:Good C S.d Φ) {n:Str} {p p':Pos} {e:Expr} {es:List Expr} {fa:Store→Res (List PyData)}
    (hn:n ∈ fnNames) (hk:S.scope.kind = .function) (hl:S.scope.names.lookup n = some .globalImplicit) (hdb:(n == ("__debug__":Str)) = false)
    (ha:SA C S (e :: es) fa) (he:∀ env,starEach (e :: es) env = (false,eval e env) :: starEach es env:=by intro _;rfl)
    (hc:∀ env,eval (.Call (.Name n p) (e :: es) [] p') env = (do callWith p' (← eval (.Name n p) env) [] (backTo p' (starEach (e :: es) env)) (backToKw p' (keywordEach [] env))):=by intro _;rfl) :
    SE C S (.Call (.Name n p) (e :: es) [] p') (dCall Φ n fa):=by
  obtain ⟨f,o,fd,h1,h2,h3⟩:=w.fn n hn
  exact SE.call w.G hΦ h1 h2 h3 hk hl hdb ha he hc
namespace R
theorem neg {e:Expr} {p:Pos} {f:Store→Res PyData} (hf:SE C S e f):SE C S (.UnaryOp .USub e p) (dOn negD f):=SE.neg hf
theorem cstr {x:Str} {k:Nat} {p:Pos}:SE C S (.Constant (.str x) k p) (dK (.str x)):=SE.cstr
theorem cint {x:Int} {k:Nat} {p:Pos}:SE C S (.Constant (.int x) k p) (dK (.int x)):=SE.cint
theorem cbool {x:Bool} {k:Nat} {p:Pos}:SE C S (.Constant (.bool x) k p) (dK (.bool x)):=SE.cbool
theorem cnone {k:Nat} {p:Pos}:SE C S (.Constant .none k p) (dK .none):=SE.cnone
theorem nilA:SA C S [] aNil:=SA.nil
theorem consA {e:Expr} {es:List Expr} {f:Store→Res PyData} {fs:Store→Res (List PyData)} (h:SE C S e f) (hs:SA C S es fs) (he:∀ env,starEach (e :: es) env = (false,eval e env) :: starEach es env:=by intro _;rfl):SA C S (e :: es) (aCons f fs):=SA.cons h hs he
theorem tuple {es:List Expr} {k:Nat} {p:Pos} {f:Store→Res (List PyData)} (h:SA C S es f):SE C S (.Tuple es k p) (dTup f):=SE.tuple h
theorem list {es:List Expr} {p:Pos} {f:Store→Res (List PyData)} (h:SA C S es f):SE C S (.List es p) (dLst f):=SE.list h
theorem bin {l r:Expr} {op:Operator} {p:Pos} {f g:Store→Res PyData} {o:PyData→PyData→Option PyData} (ho:BinOk C op o) (hf:SE C S l f) (hg:SE C S r g):SE C S (.BinOp l op r p) (dBin o f g):=SE.bin ho hf hg
theorem addT {l r:Expr} {p:Pos} {f g:Store→Res PyData} (hf:SE C S l f) (hg:SE C S r g):SE C S (.BinOp l .Add r p) (dBin Mine.addT f g):=SE.addT hf hg
theorem cmp {l r:Expr} {op:CmpOp} {p:Pos} {f g:Store→Res PyData} {o:PyData→PyData→Option Bool} (ho:CmpOk C op o) (hf:SE C S l f) (hg:SE C S r g) (hm:behindInMarks op r = false:=by rfl):SE C S (.Compare l [op] [r] p) (dCmp o f g):=SE.cmp ho hf hg hm
theorem cmpT {l r:Expr} {op:CmpOp} {p:Pos} {f g:Store→Res PyData} {o:PyData→PyData→Option Bool} (ho:CmpOk C op o) (hf:SE C S l f) (hg:SE C S r g) (hm:behindInMarks op r = false:=by rfl):ST C S (.Compare l [op] [r] p) (tCmp o f g):=ST.cmp ho hf hg hm
theorem chain2 {l r r':Expr} {op op':CmpOp} {p:Pos} {f g g':Store→Res PyData} {o o':PyData→PyData→Option Bool} (ho:CmpOk C op o) (ho':CmpOk C op' o') (hf:SE C S l f) (hg:SE C S r g) (hg':SE C S r' g') (hm:lastMarks [op,op'] [r,r'] = false:=by rfl) :
    ST C S (.Compare l [op,op'] [r,r'] p) (tChain o o' f g g'):=ST.chain2 ho ho' hf hg hg' hm
theorem not {e:Expr} {p:Pos} {f:Store→Res Bool} (h:ST C S e f):ST C S (.UnaryOp .Not e p) (tNot f):=ST.not h
theorem and_nil {p:Pos}:ST C S (.BoolOp .And [] p) tAnd0:=ST.and_nil
theorem or_nil {p:Pos}:ST C S (.BoolOp .Or [] p) tOr0:=ST.or_nil
theorem and {e:Expr} {es:List Expr} {p:Pos} {f g:Store→Res Bool} (h:ST C S e f) (hs:ST C S (.BoolOp .And es p) g):ST C S (.BoolOp .And (e :: es) p) (tAnd f g):=ST.and h hs
theorem or {e:Expr} {es:List Expr} {p:Pos} {f g:Store→Res Bool} (h:ST C S e f) (hs:ST C S (.BoolOp .Or es p) g):ST C S (.BoolOp .Or (e :: es) p) (tOr f g):=ST.or h hs
theorem plain {e:Expr} {f:Store→Res PyData} (h:SE C S e f) (he:∀ env whole,isTrue e env whole = (do let v ← whole;standAt e.pos;holding [v] (truthy v)):=by intro _ _;rfl):ST C S e (tPlain f):=ST.plain h he
theorem and2 {a b:Expr} {p:Pos} {f g:Store→Res PyData} (hf:SE C S a f) (hg:SE C S b g):SE C S (.BoolOp .And [a,b] p) (dAnd2 f g):=SE.and2 hf hg
theorem or2 {a b:Expr} {p:Pos} {f g:Store→Res PyData} (hf:SE C S a f) (hg:SE C S b g):SE C S (.BoolOp .Or [a,b] p) (dOr2 f g):=SE.or2 hf hg
theorem ife {t a b:Expr} {p:Pos} {c:Store→Res Bool} {f g:Store→Res PyData} (hc:ST C S t c) (hf:SE C S a f) (hg:SE C S b g):SE C S (.IfExp t a b p) (dIf c f g):=SE.ife hc hf hg
theorem index {e i:Expr} {p:Pos} {f g:Store→Res PyData} (hf:SE C S e f) (hg:SE C S i g) (hs:∀ o k,subscripted i false o k = operate [o,k] (getItem o k):=by intro _ _;rfl):SE C S (.Subscript e i p) (dIdx f g):=SE.index hf hg hs
theorem noP:SP C S none pNo:=SP.no
theorem ofP {e:Expr} {f:Store→Res PyData} (h:SE C S e f):SP C S (some e) (pOf f):=SP.of h
theorem cut {e:Expr} {lo hi:Option Expr} {p p':Pos} {f:Store→Res PyData} {fl fu:Store→Res (Option Int)} (hf:SE C S e f) (hl:SP C S lo fl) (hu:SP C S hi fu) (ht:∀ x t r,letTemporaryGo e (.str x t) r = pure ():=by intro _ _ _;rfl) :
    SE C S (.Subscript e (.Slice lo hi none p) p') (dCut f fl fu):=SE.cut hf hl hu ht
theorem cutLast {e:Expr} {p p' p1 p2:Pos} {k:Nat} {f:Store→Res PyData} (hf:SE C S e f):SE C S (.Subscript e (.Slice none (some (.UnaryOp .USub (.Constant (.int 1) k p1) p2)) none p) p') (dOn lastCut f):=SE.cutLast hf
theorem blt1 (G:Glb C) {n:Str} {id:String} {g:PyData→Option PyData} {p p':Pos} {e:Expr} {f:Store→Res PyData} (hb:Blt1 C id g)
    (hm:C.mg n = none) (hv:bootBuiltins n = some (.builtin id)) (hn:n ≠ "__name__") (hk:S.scope.kind = .function) (hl:S.scope.names.lookup n = some .globalImplicit) (hdb:(n == ("__debug__":Str)) = false)
    (hf:SE C S e f) (he:∀ env,starEach [e] env = [(false,eval e env)]:=by intro _;rfl)
    (hc:∀ env,eval (.Call (.Name n p) [e] [] p') env = (do callWith p' (← eval (.Name n p) env) [] (backTo p' (starEach [e] env)) (backToKw p' (keywordEach [] env))):=by intro _;rfl) :
    SE C S (.Call (.Name n p) [e] [] p') (dOn g f):=SE.blt1 G hb hm hv hn hk hl hdb hf he hc
theorem tup (G:Glb C) {p p':Pos} {e:Expr} {f:Store→Res PyData} (hm:C.mg "tuple" = none) (hk:S.scope.kind = .function) (hl:S.scope.names.lookup ("tuple":Str) = some .globalImplicit)
    (hf:SE C S e f) (he:∀ env,starEach [e] env = [(false,eval e env)]:=by intro _;rfl)
    (hc:∀ env,eval (.Call (.Name "tuple" p) [e] [] p') env = (do callWith p' (← eval (.Name "tuple" p) env) [] (backTo p' (starEach [e] env)) (backToKw p' (keywordEach [] env))):=by intro _;rfl) :
    SE C S (.Call (.Name "tuple" p) [e] [] p') (dOn tupleF f):=SE.tup G hm hk hl hf he hc
theorem meth {name:Str} {g:PyData→List PyData→Option PyData} (hg:Mth C name g) {o:Expr} {e:Expr} {es:List Expr} {p2 p3:Pos} {f:Store→Res PyData} {fa:Store→Res (List PyData)} {pl:Env→Sem Bool} (hf:SE C S o f) (ha:SA C S (e :: es) fa)
    (he:∀ env,starEach (e :: es) env = (false,eval e env) :: starEach es env:=by intro _;rfl)
    (hp:∀ env,(backTo p3 (starEach es env)).any (·.1) = false:=by intro _;rfl)
    (hc:∀ env,eval (.Call (.Attribute o name p2) (e :: es) [] p3) env = (do
      let ov ← eval o env
      standAt p2.atName
      let (f,first) ← holding [ov] (getMethod ov name (pl env))
      callWith p3 f first (backTo p3 (starEach (e :: es) env)) []):=by intro _;rfl) :
    SE C S (.Call (.Attribute o name p2) (e :: es) [] p3) (dMeth g f fa):=SE.meth hg hf ha he hp hc
theorem frzE {e:Expr} {f:Store→Res PyData} (h:SE C S e f) (hn:S.names.Nodup):SE C S e (dFrz f):=SE.frz h hn
theorem frzT {e:Expr} {f:Store→Res Bool} (h:ST C S e f) (hn:S.names.Nodup):ST C S e (dFrz f):=ST.frz h hn
theorem listN {es:List Expr} {p:Pos} {f:Store→Res (List PyData)} (h:SA C S es f):SN C S (.List es p) (nLst f):=SN.list h
theorem comp {target iter elt:Expr} {cscope:Scope} {pos:Pos} {f:Store→Res PyData} {g:PyData→Option PyData} (hf:SE C S iter f) (hb:CB C cscope target elt g) (hgo:CG C target g)
    (hfree:∀ y ∈ cscope.names,y.2 ≠ .free) (hcell:∀ y ∈ cscope.names,y.2 ≠ .cell) (hkind:cscope.kind = .function) (hnames:∀ y ∈ cscope.names,y.2 = .local→cscope.names.lookup y.1 = some .local)
    (hs:∀ env x,foldedSetIterable iter env x = pure x:=by intro _ _;rfl) :
    SN C S (.ListComp elt [⟨target,iter,[],0⟩] cscope pos) (nComp g f):=SN.comp hf hb hgo hfree hcell hkind hnames hs
theorem se {e:Expr} {f:Store→Res (List PyData)} (h:SN C S e f):SE C S e (dNew f):=h.se
theorem nil:SS C S [] sNil:=SS.nil
theorem cons {st:Stmt} {rest:List Stmt} {f g:Store→Option Out} (h:SX C S st f) (hs:SS C S rest g):SS C S (st :: rest) (sCons f g):=SS.cons h hs
theorem assign {x:Str} {p p':Pos} {e:Expr} {i:Nat} {f:Store→Res PyData} (hf:SE C S e f) (hi:SlotAt S i x) (hw:∀ env,swapsWith e (some (.Name x p)) p'.line env = pure false:=by intro _;rfl):SX C S (.Assign [.Name x p] e p') (sAsg i f):=SX.assign hf hi hw
theorem own {x:Str} {p p':Pos} {e:Expr} {i:Nat} {f:Store→Res (List PyData)} (hf:SN C S e f) (hi:SlotAt S i x) (hw:∀ env,swapsWith e (some (.Name x p)) p'.line env = pure false:=by intro _;rfl):SX C S (.Assign [.Name x p] e p') (sOwn i f):=SX.own hf hi hw
theorem ownComp {x:Str} {px spos:Pos} {target iter elt:Expr} {cscope:Scope} {pos:Pos} {i:Nat} {f:Store→Res PyData} {g:PyData→Option PyData} (hi:SlotAt S i x) (hf:SE C S iter f) (hb:CB C cscope target elt g) (hgo:CG C target g)
    (hfree:∀ y ∈ cscope.names,y.2 ≠ .free) (hcell:∀ y ∈ cscope.names,y.2 ≠ .cell) (hkind:cscope.kind = .function) (hnames:∀ y ∈ cscope.names,y.2 = .local→cscope.names.lookup y.1 = some .local)
    (hsw:∀ X,Fits S X→swapsWith (.ListComp elt [⟨target,iter,[],0⟩] cscope pos) (some (.Name x px)) spos.line X.env = pure true)
    (hs:∀ env x,foldedSetIterable iter env x = pure x:=by intro _ _;rfl) :
    SX C S (.Assign [.Name x px] (.ListComp elt [⟨target,iter,[],0⟩] cscope pos) spos) (sOwn i (nComp g f)):=SX.ownComp hi hf hb hgo hfree hcell hkind hnames hsw hs
theorem aug {x:Str} {p p':Pos} {op:Operator} {e:Expr} {i:Nat} {f:Store→Res PyData} {g:PyData→PyData→Option PyData} (hg:BinOk C op g) (hf:SE C S e f) (hi:SlotAt S i x) (hk:S.scope.kind = .function):SX C S (.AugAssign (.Name x p) op e p') (sAug g i f):=SX.aug hg hf hi hk
theorem ite {t:Expr} {a b:List Stmt} {p:Pos} {c:Store→Res Bool} {f g:Store→Option Out} (hc:ST C S t c) (hf:SS C S a f) (hg:SS C S b g):SX C S (.If t a b p) (sIte c f g):=SX.ite hc hf hg
theorem brk {p:Pos}:SX C S (.Break p) sBrk:=SX.brk
theorem ret {e:Expr} {p:Pos} {f:Store→Res PyData} (hf:SE C S e f) (hn:S.names.Nodup):SX C S (.Return (some e) p) (sRet f):=SX.ret hf hn
theorem unpack {es:List Expr} {is:List Nat} {k:Nat} {p p':Pos} {e:Expr} {f:Store→Res PyData} (hf:SE C S e f) (hn:TNames S es is)
    (hs:∀ env,swapsWithSole [.Tuple es k p] e p'.line env = pure false:=by intro _;rfl) (hw:∀ env,swappedStores [.Tuple es k p] e env = pure none:=by intro _;rfl):SX C S (.Assign [.Tuple es k p] e p') (sUnp is f):=SX.unpack hf hn hs hw
theorem swap {es:List Expr} {ns:List (Str × Nat)} {k:Nat} {p p':Pos} {e:Expr} {f:Store→Res PyData} (hf:SE C S e f) (hn:∀ q ∈ ns,SlotAt S q.2 q.1)
    (hs:∀ env,swapsWithSole [.Tuple es k p] e p'.line env = pure false:=by intro _;rfl) (hw:∀ X,Fits S X→swappedStores [.Tuple es k p] e X.env = pure (some (ns.map (·.1)))):SX C S (.Assign [.Tuple es k p] e p') (sSwp ns f):=SX.swap hf hn hs hw
theorem raise (G:Glb C) (XF:Exf C) {t:Str} {k:Nat} {p p' p'' p3:Pos} (hd:3 ≤ S.d) (hk:S.scope.kind = .function) (hl:S.scope.names.lookup ("error":Str) = some .globalImplicit)
    (he:∀ env,starEach [.Constant (.str t) k p''] env = [(false,eval (.Constant (.str t) k p'') env)]:=by intro _;rfl)
    (hc:∀ env,eval (.Call (.Name "error" p) [.Constant (.str t) k p''] [] p') env = (do callWith p' (← eval (.Name "error" p) env) [] (backTo p' (starEach [.Constant (.str t) k p''] env)) (backToKw p' (keywordEach [] env))):=by intro _;rfl)
    (hev:∀ env,evalOpt (some (.Call (.Name "error" p) [.Constant (.str t) k p''] [] p')) env = some (eval (.Call (.Name "error" p) [.Constant (.str t) k p''] [] p') env):=by intro _;rfl)
    (hev':∀ env,evalOpt none env = none:=by intro _;rfl) :
    SX C S (.Raise (some (.Call (.Name "error" p) [.Constant (.str t) k p''] [] p')) none p3) (sRaise t):=SX.raise G XF hd hk hl he hc hev hev'
theorem try_ (G:Glb C) (XF:Exf C) {n:Str} {body:List Stmt} {p0 p1 p2 p3 p1' p2' p3' q1 q2 q3 q4 q5:Pos} {j1 j2:Nat} {f:Store→Option Out} (hb:SS C S body f)
    (hk:S.scope.kind = .function) (hR:S.scope.names.lookup ("Raised":Str) = some .globalImplicit) (hn:n ∉ S.names) (hl:S.scope.names.lookup n = some .local) (hd:(n == ("__debug__":Str)) = false) (hc:n ≠ "code")
    {eX:Expr} {fx:Store→Option PyData} (hE:SQ C S eX fx) (he:∀ env y,starEach [eX,y] env = (false,eval eX env) :: starEach [y] env:=by intro _ _;rfl) :
    SX C S (.Try body [.ExceptHandler (some (.Name "Raised" p0)) (some n) [.Return (some (.Tuple [eX,.Tuple [.Attribute (.Name n p1) "code" p1',.Attribute (.Name n p2) "value" p2',.Attribute (.Name n p3) "errorcode" p3'] j1 q1] j2 q2)) q3] q4] [] [] q5)
      (sTry f fx):=SX.try_ G XF hb hk hR hn hl hd hc hE he
theorem unitQ {k:Nat} {p:Pos}:SQ C S (.Tuple [] k p) qUnit:=SQ.unit
theorem nameQ {x:Str} {p:Pos} {i:Nat} (hi:S.names[i]? = some x) (hl:S.scope.names.lookup x = some .local) (hn:S.names.Nodup) (hd:(x == ("__debug__":Str)) = false):SQ C S (.Name x p) (qName i):=SQ.name hi hl hn hd
theorem while_ {t:Expr} {b:List Stmt} {p:Pos} {c:Store→Res Bool} {f:Store→Option Out} (hc:ST C S t c) (hf:SS C S b f):SX C S (.While t b [] p) (sWhile c f):=SX.while_ bigN hc hf
theorem forRange (G:Glb C) {x:Str} {px p p' p3:Pos} {e:Expr} {body:List Stmt} {i:Nat} {f:Store→Res PyData} {g:Store→Option Out} (hm:C.mg "range" = none) (hk:S.scope.kind = .function) (hl:S.scope.names.lookup ("range":Str) = some .globalImplicit)
    (hf:SE C S e f) (hi:SlotAt S i x) (hb:SS C S body g) (he:∀ env,starEach [e] env = [(false,eval e env)]:=by intro _;rfl)
    (hc:∀ env,eval (.Call (.Name "range" p) [e] [] p') env = (do callWith p' (← eval (.Name "range" p) env) [] (backTo p' (starEach [e] env)) (backToKw p' (keywordEach [] env))):=by intro _;rfl)
    (hs:∀ env x,foldedSetIterable (.Call (.Name "range" p) [e] [] p') env x = pure x:=by intro _ _;rfl) :
    SX C S (.For (.Name x px) (.Call (.Name "range" p) [e] [] p') body [] p3) (sFor i f g):=SX.forRange G hm hk hl hf hi hb he hc hs
end R
end
end Mine
end
section
set_option tactic.hygienic false
open PySem PySem.W PyProof.Rows PySem.Spec PySem.Calls
namespace Mine
theorem boot_len:bootBuiltins "len" = some (.builtin "len"):=by exact rfl
theorem boot_ord:bootBuiltins "ord" = some (.builtin "ord"):=by exact rfl
theorem boot_chr:bootBuiltins "chr" = some (.builtin "chr"):=by exact rfl
noncomputable def nm_digit:List Str:=["c","n"]
@[reducible] noncomputable def sh_digit (d:Nat):Sh:=⟨scopeOf (stm 4),nm_digit,d⟩
theorem nd_digit:nm_digit.Nodup:=by decide
noncomputable def den_digit (_:Oracle):Store→Option Out :=
  sCons (sIte (tCmp neD (dOn lenD (getV 0)) (dK (.int 1)))
    (sCons (sRet (dOn negD (dK (.int 1)))) <|
    sNil)
    (sNil)) <|
  sCons (sAsg 1 (dOn ordF (getV 0))) <|
  sCons (sIte (tChain (ordD fun a b=>decide (a ≤ b)) (ordD fun a b=>decide (a ≤ b)) (dK (.int 48)) (getV 1) (dK (.int 57)))
    (sCons (sRet (dBin subD (getV 1) (dK (.int 48)))) <|
    sNil)
    (sNil)) <|
  sCons (sIte (tChain (ordD fun a b=>decide (a ≤ b)) (ordD fun a b=>decide (a ≤ b)) (dK (.int 97)) (getV 1) (dK (.int 122)))
    (sCons (sRet (dBin subD (getV 1) (dK (.int 87)))) <|
    sNil)
    (sNil)) <|
  sCons (sIte (tChain (ordD fun a b=>decide (a ≤ b)) (ordD fun a b=>decide (a ≤ b)) (dK (.int 65)) (getV 1) (dK (.int 90)))
    (sCons (sRet (dBin subD (getV 1) (dK (.int 55)))) <|
    sNil)
    (sNil)) <|
  sCons (sRet (dOn negD (dK (.int 1)))) <|
  sNil
theorem ss_digit {C:Cx} (w:W C) {Φ:Oracle} {d:Nat} (hd:3 ≤ d) (hΦ:Good C d Φ):SS C (sh_digit d) (bodyOf (stm 4)) (den_digit Φ):=by
  have n_c:Slot (sh_digit d) 0 "c":=⟨⟨by decide,rfl,rfl,nd_digit⟩,rfl,rfl⟩
  have n_n:Slot (sh_digit d) 1 "n":=⟨⟨by decide,rfl,rfl,nd_digit⟩,rfl,rfl⟩
  refine R.cons ?_ ?_
  · refine R.ite (R.cmpT CmpOk.ne (R.blt1 w.G Blt1.len (w.no _ (by decide)) boot_len (by decide) rfl rfl rfl n_c.e) R.cint) ?_ ?_
    · refine R.cons ?_ ?_
      · exact R.ret (R.neg R.cint) n_c.nd
      · exact R.nil
    · exact R.nil
  · refine R.cons ?_ ?_
    · exact R.assign (R.blt1 w.G Blt1.ord (w.no _ (by decide)) boot_ord (by decide) rfl rfl rfl n_c.e) n_n.s
    · refine R.cons ?_ ?_
      · refine R.ite (R.chain2 CmpOk.le CmpOk.le R.cint n_n.e R.cint) ?_ ?_
        · refine R.cons ?_ ?_
          · exact R.ret (R.bin BinOk.sub n_n.e R.cint) n_c.nd
          · exact R.nil
        · exact R.nil
      · refine R.cons ?_ ?_
        · refine R.ite (R.chain2 CmpOk.le CmpOk.le R.cint n_n.e R.cint) ?_ ?_
          · refine R.cons ?_ ?_
            · exact R.ret (R.bin BinOk.sub n_n.e R.cint) n_c.nd
            · exact R.nil
          · exact R.nil
        · refine R.cons ?_ ?_
          · refine R.ite (R.chain2 CmpOk.le CmpOk.le R.cint n_n.e R.cint) ?_ ?_
            · refine R.cons ?_ ?_
              · exact R.ret (R.bin BinOk.sub n_n.e R.cint) n_c.nd
              · exact R.nil
            · exact R.nil
          · refine R.cons ?_ ?_
            · exact R.ret (R.neg R.cint) n_c.nd
            · exact R.nil
noncomputable def nm_is_gap:List Str:=["c"]
@[reducible] noncomputable def sh_is_gap (d:Nat):Sh:=⟨scopeOf (stm 9),nm_is_gap,d⟩
theorem nd_is_gap:nm_is_gap.Nodup:=by decide
noncomputable def den_is_gap (_:Oracle):Store→Option Out :=
  sCons (sRet (dCmp inD (getV 0) (dTup (aCons (dK (.str " ")) (aCons (dK (.str "\x09")) (aCons (dK (.str "\x0b")) (aCons (dK (.str "\x0c")) (aCons (dK (.str "\x0d")) aNil)))))))) <|
  sNil
theorem ss_is_gap {C:Cx} (w:W C) {Φ:Oracle} {d:Nat} (hd:3 ≤ d) (hΦ:Good C d Φ):SS C (sh_is_gap d) (bodyOf (stm 9)) (den_is_gap Φ):=by
  have n_c:Slot (sh_is_gap d) 0 "c":=⟨⟨by decide,rfl,rfl,nd_is_gap⟩,rfl,rfl⟩
  refine R.cons ?_ ?_
  · exact R.ret (R.cmp CmpOk.in_ n_c.e (R.tuple (R.consA R.cstr (R.consA R.cstr (R.consA R.cstr (R.consA R.cstr (R.consA R.cstr R.nilA))))))) n_c.nd
  · exact R.nil
noncomputable def nm_hex_sign:List Str:=["text","at","most","place","value","step"]
@[reducible] noncomputable def sh_hex_sign (d:Nat):Sh:=⟨scopeOf (stm 6),nm_hex_sign,d⟩
noncomputable def lc_hex_sign_1:Store→Res Bool:=(tAnd (tCmp (ordD fun a b=>decide (a < b)) (getV 3) (getV 2)) (tAnd (tCmp (ordD fun a b=>decide (a < b)) (getV 3) (dOn lenD (getV 0))) (tAnd (tCmp (ordD fun a b=>decide (a ≤ b)) (getV 4) (dK (.int 69631))) tAnd0)))
noncomputable def lb_hex_sign_1 (Φ:Oracle):Store→Option Out :=
  sCons (sAsg 5 (dCall Φ "digit" (aCons (dIdx (getV 0) (getV 3)) aNil))) <|
  sCons (sIte (tOr (tCmp (ordD fun a b=>decide (a < b)) (getV 5) (dK (.int 0))) (tOr (tCmp (ordD fun a b=>decide (b < a)) (getV 5) (dK (.int 15))) tOr0))
    (sCons (sBrk) <|
    sNil)
    (sNil)) <|
  sCons (sAsg 4 (dBin addD (dBin mulD (getV 4) (dK (.int 16))) (getV 5))) <|
  sCons (sAug addD 3 (dK (.int 1))) <|
  sNil
theorem nd_hex_sign:nm_hex_sign.Nodup:=by decide
noncomputable def den_hex_sign (Φ:Oracle):Store→Option Out :=
  sCons (sAsg 2 (dBin addD (getV 1) (dK (.int 3)))) <|
  sCons (sIte (tCmp eqD (dIdx (getV 0) (getV 1)) (dK (.str "u")))
    (sCons (sAsg 2 (dBin addD (getV 1) (dK (.int 5)))) <|
    sNil)
    (sCons (sIte (tCmp eqD (dIdx (getV 0) (getV 1)) (dK (.str "U")))
      (sCons (sAsg 2 (dBin addD (getV 1) (dK (.int 9)))) <|
      sNil)
      (sNil)) <|
    sNil)) <|
  sCons (sAsg 3 (dBin addD (getV 1) (dK (.int 1)))) <|
  sCons (sAsg 4 (dK (.int 0))) <|
  sCons (sWhile lc_hex_sign_1 (lb_hex_sign_1 Φ)) <|
  sCons (sIte (tCmp eqD (getV 3) (dBin addD (getV 1) (dK (.int 1))))
    (sCons (sRet (dTup (aCons (dIdx (getV 0) (getV 1)) (aCons (getV 3) aNil)))) <|
    sNil)
    (sNil)) <|
  sCons (sRet (dTup (aCons (dOn chrF (getV 4)) (aCons (getV 3) aNil)))) <|
  sNil
theorem ss_hex_sign {C:Cx} (w:W C) {Φ:Oracle} {d:Nat} (hd:3 ≤ d) (hΦ:Good C d Φ):SS C (sh_hex_sign d) (bodyOf (stm 6)) (den_hex_sign Φ):=by
  have n_text:Slot (sh_hex_sign d) 0 "text":=⟨⟨by decide,rfl,rfl,nd_hex_sign⟩,rfl,rfl⟩
  have n_at:Slot (sh_hex_sign d) 1 "at":=⟨⟨by decide,rfl,rfl,nd_hex_sign⟩,rfl,rfl⟩
  have n_most:Slot (sh_hex_sign d) 2 "most":=⟨⟨by decide,rfl,rfl,nd_hex_sign⟩,rfl,rfl⟩
  have n_place:Slot (sh_hex_sign d) 3 "place":=⟨⟨by decide,rfl,rfl,nd_hex_sign⟩,rfl,rfl⟩
  have n_value:Slot (sh_hex_sign d) 4 "value":=⟨⟨by decide,rfl,rfl,nd_hex_sign⟩,rfl,rfl⟩
  have n_step:Slot (sh_hex_sign d) 5 "step":=⟨⟨by decide,rfl,rfl,nd_hex_sign⟩,rfl,rfl⟩
  refine R.cons ?_ ?_
  · exact R.assign (R.bin BinOk.add n_at.e R.cint) n_most.s
  · refine R.cons ?_ ?_
    · refine R.ite (R.cmpT CmpOk.eq (R.index n_text.e n_at.e) R.cstr) ?_ ?_
      · refine R.cons ?_ ?_
        · exact R.assign (R.bin BinOk.add n_at.e R.cint) n_most.s
        · exact R.nil
      · refine R.cons ?_ ?_
        · refine R.ite (R.cmpT CmpOk.eq (R.index n_text.e n_at.e) R.cstr) ?_ ?_
          · refine R.cons ?_ ?_
            · exact R.assign (R.bin BinOk.add n_at.e R.cint) n_most.s
            · exact R.nil
          · exact R.nil
        · exact R.nil
    · refine R.cons ?_ ?_
      · exact R.assign (R.bin BinOk.add n_at.e R.cint) n_place.s
      · refine R.cons ?_ ?_
        · exact R.assign R.cint n_value.s
        · refine R.cons ?_ ?_
          · refine R.while_ (R.and (R.cmpT CmpOk.lt n_place.e n_most.e) (R.and (R.cmpT CmpOk.lt n_place.e (R.blt1 w.G Blt1.len (w.no _ (by decide)) boot_len (by decide) rfl rfl rfl n_text.e)) (R.and (R.cmpT CmpOk.le n_value.e R.cint) R.and_nil))) ?_
            · refine R.cons ?_ ?_
              · exact R.assign (SE.callW w hΦ (by decide) rfl rfl rfl (R.consA (R.index n_text.e n_place.e) R.nilA)) n_step.s
              · refine R.cons ?_ ?_
                · refine R.ite (R.or (R.cmpT CmpOk.lt n_step.e R.cint) (R.or (R.cmpT CmpOk.gt n_step.e R.cint) R.or_nil)) ?_ ?_
                  · refine R.cons ?_ ?_
                    · exact R.brk
                    · exact R.nil
                  · exact R.nil
                · refine R.cons ?_ ?_
                  · exact R.assign (R.bin BinOk.add (R.bin BinOk.mul n_value.e R.cint) n_step.e) n_value.s
                  · refine R.cons ?_ ?_
                    · exact R.aug BinOk.add R.cint n_place.s n_place.k
                    · exact R.nil
          · refine R.cons ?_ ?_
            · refine R.ite (R.cmpT CmpOk.eq n_place.e (R.bin BinOk.add n_at.e R.cint)) ?_ ?_
              · refine R.cons ?_ ?_
                · exact R.ret (R.tuple (R.consA (R.index n_text.e n_at.e) (R.consA n_place.e R.nilA))) n_text.nd
                · exact R.nil
              · exact R.nil
            · refine R.cons ?_ ?_
              · exact R.ret (R.tuple (R.consA (R.blt1 w.G Blt1.chr (w.no _ (by decide)) boot_chr (by decide) rfl rfl rfl n_value.e) (R.consA n_place.e R.nilA))) n_text.nd
              · exact R.nil
noncomputable def nm_octal_sign:List Str:=["text","at","place","value","step"]
@[reducible] noncomputable def sh_octal_sign (d:Nat):Sh:=⟨scopeOf (stm 7),nm_octal_sign,d⟩
noncomputable def lc_octal_sign_1:Store→Res Bool:=(tAnd (tCmp (ordD fun a b=>decide (a < b)) (getV 2) (dBin addD (getV 1) (dK (.int 3)))) (tAnd (tCmp (ordD fun a b=>decide (a < b)) (getV 2) (dOn lenD (getV 0))) (tAnd (tCmp (ordD fun a b=>decide (a < b)) (getV 3) (dK (.int 32))) tAnd0)))
noncomputable def lb_octal_sign_1 (Φ:Oracle):Store→Option Out :=
  sCons (sAsg 4 (dCall Φ "digit" (aCons (dIdx (getV 0) (getV 2)) aNil))) <|
  sCons (sIte (tOr (tCmp (ordD fun a b=>decide (a < b)) (getV 4) (dK (.int 0))) (tOr (tCmp (ordD fun a b=>decide (b < a)) (getV 4) (dK (.int 7))) tOr0))
    (sCons (sBrk) <|
    sNil)
    (sNil)) <|
  sCons (sAsg 3 (dBin addD (dBin mulD (getV 3) (dK (.int 8))) (getV 4))) <|
  sCons (sAug addD 2 (dK (.int 1))) <|
  sNil
theorem nd_octal_sign:nm_octal_sign.Nodup:=by decide
noncomputable def den_octal_sign (Φ:Oracle):Store→Option Out :=
  sCons (sAsg 2 (getV 1)) <|
  sCons (sAsg 3 (dK (.int 0))) <|
  sCons (sWhile lc_octal_sign_1 (lb_octal_sign_1 Φ)) <|
  sCons (sRet (dTup (aCons (dOn chrF (getV 3)) (aCons (getV 2) aNil)))) <|
  sNil
theorem ss_octal_sign {C:Cx} (w:W C) {Φ:Oracle} {d:Nat} (hd:3 ≤ d) (hΦ:Good C d Φ):SS C (sh_octal_sign d) (bodyOf (stm 7)) (den_octal_sign Φ):=by
  have n_text:Slot (sh_octal_sign d) 0 "text":=⟨⟨by decide,rfl,rfl,nd_octal_sign⟩,rfl,rfl⟩
  have n_at:Slot (sh_octal_sign d) 1 "at":=⟨⟨by decide,rfl,rfl,nd_octal_sign⟩,rfl,rfl⟩
  have n_place:Slot (sh_octal_sign d) 2 "place":=⟨⟨by decide,rfl,rfl,nd_octal_sign⟩,rfl,rfl⟩
  have n_value:Slot (sh_octal_sign d) 3 "value":=⟨⟨by decide,rfl,rfl,nd_octal_sign⟩,rfl,rfl⟩
  have n_step:Slot (sh_octal_sign d) 4 "step":=⟨⟨by decide,rfl,rfl,nd_octal_sign⟩,rfl,rfl⟩
  refine R.cons ?_ ?_
  · exact R.assign n_at.e n_place.s
  · refine R.cons ?_ ?_
    · exact R.assign R.cint n_value.s
    · refine R.cons ?_ ?_
      · refine R.while_ (R.and (R.cmpT CmpOk.lt n_place.e (R.bin BinOk.add n_at.e R.cint)) (R.and (R.cmpT CmpOk.lt n_place.e (R.blt1 w.G Blt1.len (w.no _ (by decide)) boot_len (by decide) rfl rfl rfl n_text.e)) (R.and (R.cmpT CmpOk.lt n_value.e R.cint) R.and_nil))) ?_
        · refine R.cons ?_ ?_
          · exact R.assign (SE.callW w hΦ (by decide) rfl rfl rfl (R.consA (R.index n_text.e n_place.e) R.nilA)) n_step.s
          · refine R.cons ?_ ?_
            · refine R.ite (R.or (R.cmpT CmpOk.lt n_step.e R.cint) (R.or (R.cmpT CmpOk.gt n_step.e R.cint) R.or_nil)) ?_ ?_
              · refine R.cons ?_ ?_
                · exact R.brk
                · exact R.nil
              · exact R.nil
            · refine R.cons ?_ ?_
              · exact R.assign (R.bin BinOk.add (R.bin BinOk.mul n_value.e R.cint) n_step.e) n_value.s
              · refine R.cons ?_ ?_
                · exact R.aug BinOk.add R.cint n_place.s n_place.k
                · exact R.nil
      · refine R.cons ?_ ?_
        · exact R.ret (R.tuple (R.consA (R.blt1 w.G Blt1.chr (w.no _ (by decide)) boot_chr (by decide) rfl rfl rfl n_value.e) (R.consA n_place.e R.nilA))) n_text.nd
        · exact R.nil
noncomputable def nm_backslash:List Str:=["text","at","sign","known","behind"]
@[reducible] noncomputable def sh_backslash (d:Nat):Sh:=⟨scopeOf (stm 8),nm_backslash,d⟩
noncomputable def lc_backslash_1:Store→Res Bool:=(tCmp inD (dCut (getV 0) (pOf (getV 4)) (pOf (dBin addD (getV 4) (dK (.int 1))))) (dTup (aCons (dK (.str " ")) (aCons (dK (.str "\x09")) aNil))))
noncomputable def lb_backslash_1 (_:Oracle):Store→Option Out :=
  sCons (sAug addD 4 (dK (.int 1))) <|
  sNil
theorem nd_backslash:nm_backslash.Nodup:=by decide
noncomputable def den_backslash (Φ:Oracle):Store→Option Out :=
  sCons (sAsg 2 (dCut (getV 0) (pOf (dBin addD (getV 1) (dK (.int 1)))) (pOf (dBin addD (getV 1) (dK (.int 2)))))) <|
  sCons (sIte (tCmp eqD (getV 2) (dK (.str "")))
    (sCons (sRet (dTup (aCons (dK (.str "\\")) (aCons (dBin addD (getV 1) (dK (.int 1))) aNil)))) <|
    sNil)
    (sNil)) <|
  sCons (sAsg 3 (dMeth findD (dK (.str "abfnrtv")) (aCons (getV 2) aNil))) <|
  sCons (sIte (tCmp (ordD fun a b=>decide (b ≤ a)) (getV 3) (dK (.int 0)))
    (sCons (sRet (dTup (aCons (dIdx (dK (.str "\x07\x08\x0c\n\x0d\x09\x0b")) (getV 3)) (aCons (dBin addD (getV 1) (dK (.int 2))) aNil)))) <|
    sNil)
    (sNil)) <|
  sCons (sIte (tCmp eqD (getV 2) (dK (.str "\n")))
    (sCons (sAsg 4 (dBin addD (getV 1) (dK (.int 2)))) <|
    sCons (sWhile lc_backslash_1 (lb_backslash_1 Φ)) <|
    sCons (sRet (dTup (aCons (dK (.str " ")) (aCons (getV 4) aNil)))) <|
    sNil)
    (sNil)) <|
  sCons (sIte (tCmp inD (getV 2) (dTup (aCons (dK (.str "x")) (aCons (dK (.str "u")) (aCons (dK (.str "U")) aNil)))))
    (sCons (sRet (dCall Φ "hex_sign" (aCons (getV 0) (aCons (dBin addD (getV 1) (dK (.int 1))) aNil)))) <|
    sNil)
    (sNil)) <|
  sCons (sIte (tCmp inD (getV 2) (dTup (aCons (dK (.str "0")) (aCons (dK (.str "1")) (aCons (dK (.str "2")) (aCons (dK (.str "3")) (aCons (dK (.str "4")) (aCons (dK (.str "5")) (aCons (dK (.str "6")) (aCons (dK (.str "7")) aNil))))))))))
    (sCons (sRet (dCall Φ "octal_sign" (aCons (getV 0) (aCons (dBin addD (getV 1) (dK (.int 1))) aNil)))) <|
    sNil)
    (sNil)) <|
  sCons (sRet (dTup (aCons (getV 2) (aCons (dBin addD (getV 1) (dK (.int 2))) aNil)))) <|
  sNil
theorem ss_backslash {C:Cx} (w:W C) {Φ:Oracle} {d:Nat} (hd:3 ≤ d) (hΦ:Good C d Φ):SS C (sh_backslash d) (bodyOf (stm 8)) (den_backslash Φ):=by
  have n_text:Slot (sh_backslash d) 0 "text":=⟨⟨by decide,rfl,rfl,nd_backslash⟩,rfl,rfl⟩
  have n_at:Slot (sh_backslash d) 1 "at":=⟨⟨by decide,rfl,rfl,nd_backslash⟩,rfl,rfl⟩
  have n_sign:Slot (sh_backslash d) 2 "sign":=⟨⟨by decide,rfl,rfl,nd_backslash⟩,rfl,rfl⟩
  have n_known:Slot (sh_backslash d) 3 "known":=⟨⟨by decide,rfl,rfl,nd_backslash⟩,rfl,rfl⟩
  have n_behind:Slot (sh_backslash d) 4 "behind":=⟨⟨by decide,rfl,rfl,nd_backslash⟩,rfl,rfl⟩
  refine R.cons ?_ ?_
  · exact R.assign (R.cut n_text.e (R.ofP (R.bin BinOk.add n_at.e R.cint)) (R.ofP (R.bin BinOk.add n_at.e R.cint))) n_sign.s
  · refine R.cons ?_ ?_
    · refine R.ite (R.cmpT CmpOk.eq n_sign.e R.cstr) ?_ ?_
      · refine R.cons ?_ ?_
        · exact R.ret (R.tuple (R.consA R.cstr (R.consA (R.bin BinOk.add n_at.e R.cint) R.nilA))) n_text.nd
        · exact R.nil
      · exact R.nil
    · refine R.cons ?_ ?_
      · exact R.assign (R.meth Mth.find R.cstr (R.consA n_sign.e R.nilA)) n_known.s
      · refine R.cons ?_ ?_
        · refine R.ite (R.cmpT CmpOk.ge n_known.e R.cint) ?_ ?_
          · refine R.cons ?_ ?_
            · exact R.ret (R.tuple (R.consA (R.index R.cstr n_known.e) (R.consA (R.bin BinOk.add n_at.e R.cint) R.nilA))) n_text.nd
            · exact R.nil
          · exact R.nil
        · refine R.cons ?_ ?_
          · refine R.ite (R.cmpT CmpOk.eq n_sign.e R.cstr) ?_ ?_
            · refine R.cons ?_ ?_
              · exact R.assign (R.bin BinOk.add n_at.e R.cint) n_behind.s
              · refine R.cons ?_ ?_
                · refine R.while_ (R.cmpT CmpOk.in_ (R.cut n_text.e (R.ofP n_behind.e) (R.ofP (R.bin BinOk.add n_behind.e R.cint))) (R.tuple (R.consA R.cstr (R.consA R.cstr R.nilA)))) ?_
                  · refine R.cons ?_ ?_
                    · exact R.aug BinOk.add R.cint n_behind.s n_behind.k
                    · exact R.nil
                · refine R.cons ?_ ?_
                  · exact R.ret (R.tuple (R.consA R.cstr (R.consA n_behind.e R.nilA))) n_text.nd
                  · exact R.nil
            · exact R.nil
          · refine R.cons ?_ ?_
            · refine R.ite (R.cmpT CmpOk.in_ n_sign.e (R.tuple (R.consA R.cstr (R.consA R.cstr (R.consA R.cstr R.nilA))))) ?_ ?_
              · refine R.cons ?_ ?_
                · exact R.ret (SE.callW w hΦ (by decide) rfl rfl rfl (R.consA n_text.e (R.consA (R.bin BinOk.add n_at.e R.cint) R.nilA))) n_text.nd
                · exact R.nil
              · exact R.nil
            · refine R.cons ?_ ?_
              · refine R.ite (R.cmpT CmpOk.in_ n_sign.e (R.tuple (R.consA R.cstr (R.consA R.cstr (R.consA R.cstr (R.consA R.cstr (R.consA R.cstr (R.consA R.cstr (R.consA R.cstr (R.consA R.cstr R.nilA)))))))))) ?_ ?_
                · refine R.cons ?_ ?_
                  · exact R.ret (SE.callW w hΦ (by decide) rfl rfl rfl (R.consA n_text.e (R.consA (R.bin BinOk.add n_at.e R.cint) R.nilA))) n_text.nd
                  · exact R.nil
                · exact R.nil
              · refine R.cons ?_ ?_
                · exact R.ret (R.tuple (R.consA n_sign.e (R.consA (R.bin BinOk.add n_at.e R.cint) R.nilA))) n_text.nd
                · exact R.nil
noncomputable def nm_skip_gaps:List Str:=["text","at"]
@[reducible] noncomputable def sh_skip_gaps (d:Nat):Sh:=⟨scopeOf (stm 10),nm_skip_gaps,d⟩
noncomputable def lc_skip_gaps_1:Store→Res Bool:=(tCmp (ordD fun a b=>decide (a < b)) (getV 1) (dOn lenD (getV 0)))
noncomputable def lb_skip_gaps_1 (Φ:Oracle):Store→Option Out :=
  sCons (sIte (tPlain (dCall Φ "is_gap" (aCons (dIdx (getV 0) (getV 1)) aNil)))
    (sCons (sAug addD 1 (dK (.int 1))) <|
    sNil)
    (sCons (sIte (tCmp eqD (dCut (getV 0) (pOf (getV 1)) (pOf (dBin addD (getV 1) (dK (.int 2))))) (dK (.str "\\\n")))
      (sCons (sAug addD 1 (dK (.int 2))) <|
      sNil)
      (sCons (sRet (getV 1)) <|
      sNil)) <|
    sNil)) <|
  sNil
theorem nd_skip_gaps:nm_skip_gaps.Nodup:=by decide
noncomputable def den_skip_gaps (Φ:Oracle):Store→Option Out :=
  sCons (sWhile lc_skip_gaps_1 (lb_skip_gaps_1 Φ)) <|
  sCons (sRet (getV 1)) <|
  sNil
theorem ss_skip_gaps {C:Cx} (w:W C) {Φ:Oracle} {d:Nat} (hd:3 ≤ d) (hΦ:Good C d Φ):SS C (sh_skip_gaps d) (bodyOf (stm 10)) (den_skip_gaps Φ):=by
  have n_text:Slot (sh_skip_gaps d) 0 "text":=⟨⟨by decide,rfl,rfl,nd_skip_gaps⟩,rfl,rfl⟩
  have n_at:Slot (sh_skip_gaps d) 1 "at":=⟨⟨by decide,rfl,rfl,nd_skip_gaps⟩,rfl,rfl⟩
  refine R.cons ?_ ?_
  · refine R.while_ (R.cmpT CmpOk.lt n_at.e (R.blt1 w.G Blt1.len (w.no _ (by decide)) boot_len (by decide) rfl rfl rfl n_text.e)) ?_
    · refine R.cons ?_ ?_
      · refine R.ite (R.plain (SE.callW w hΦ (by decide) rfl rfl rfl (R.consA (R.index n_text.e n_at.e) R.nilA))) ?_ ?_
        · refine R.cons ?_ ?_
          · exact R.aug BinOk.add R.cint n_at.s n_at.k
          · exact R.nil
        · refine R.cons ?_ ?_
          · refine R.ite (R.cmpT CmpOk.eq (R.cut n_text.e (R.ofP n_at.e) (R.ofP (R.bin BinOk.add n_at.e R.cint))) R.cstr) ?_ ?_
            · refine R.cons ?_ ?_
              · exact R.aug BinOk.add R.cint n_at.s n_at.k
              · exact R.nil
            · refine R.cons ?_ ?_
              · exact R.ret n_at.e n_text.nd
              · exact R.nil
          · exact R.nil
      · exact R.nil
  · refine R.cons ?_ ?_
    · exact R.ret n_at.e n_text.nd
    · exact R.nil
noncomputable def nm_comment_behind:List Str:=["text","at","size"]
@[reducible] noncomputable def sh_comment_behind (d:Nat):Sh:=⟨scopeOf (stm 11),nm_comment_behind,d⟩
noncomputable def lc_comment_behind_1:Store→Res Bool:=(tCmp (ordD fun a b=>decide (a < b)) (getV 1) (getV 2))
noncomputable def lb_comment_behind_1 (_:Oracle):Store→Option Out :=
  sCons (sIte (tCmp eqD (dIdx (getV 0) (getV 1)) (dK (.str "\\")))
    (sCons (sAug addD 1 (dK (.int 2))) <|
    sNil)
    (sCons (sIte (tCmp eqD (dIdx (getV 0) (getV 1)) (dK (.str "\n")))
      (sCons (sRet (dBin addD (getV 1) (dK (.int 1)))) <|
      sNil)
      (sCons (sAug addD 1 (dK (.int 1))) <|
      sNil)) <|
    sNil)) <|
  sNil
theorem nd_comment_behind:nm_comment_behind.Nodup:=by decide
noncomputable def den_comment_behind (Φ:Oracle):Store→Option Out :=
  sCons (sAsg 2 (dOn lenD (getV 0))) <|
  sCons (sWhile lc_comment_behind_1 (lb_comment_behind_1 Φ)) <|
  sCons (sRet (getV 2)) <|
  sNil
theorem ss_comment_behind {C:Cx} (w:W C) {Φ:Oracle} {d:Nat} (hd:3 ≤ d) (hΦ:Good C d Φ):SS C (sh_comment_behind d) (bodyOf (stm 11)) (den_comment_behind Φ):=by
  have n_text:Slot (sh_comment_behind d) 0 "text":=⟨⟨by decide,rfl,rfl,nd_comment_behind⟩,rfl,rfl⟩
  have n_at:Slot (sh_comment_behind d) 1 "at":=⟨⟨by decide,rfl,rfl,nd_comment_behind⟩,rfl,rfl⟩
  have n_size:Slot (sh_comment_behind d) 2 "size":=⟨⟨by decide,rfl,rfl,nd_comment_behind⟩,rfl,rfl⟩
  refine R.cons ?_ ?_
  · exact R.assign (R.blt1 w.G Blt1.len (w.no _ (by decide)) boot_len (by decide) rfl rfl rfl n_text.e) n_size.s
  · refine R.cons ?_ ?_
    · refine R.while_ (R.cmpT CmpOk.lt n_at.e n_size.e) ?_
      · refine R.cons ?_ ?_
        · refine R.ite (R.cmpT CmpOk.eq (R.index n_text.e n_at.e) R.cstr) ?_ ?_
          · refine R.cons ?_ ?_
            · exact R.aug BinOk.add R.cint n_at.s n_at.k
            · exact R.nil
          · refine R.cons ?_ ?_
            · refine R.ite (R.cmpT CmpOk.eq (R.index n_text.e n_at.e) R.cstr) ?_ ?_
              · refine R.cons ?_ ?_
                · exact R.ret (R.bin BinOk.add n_at.e R.cint) n_text.nd
                · exact R.nil
              · refine R.cons ?_ ?_
                · exact R.aug BinOk.add R.cint n_at.s n_at.k
                · exact R.nil
            · exact R.nil
        · exact R.nil
    · refine R.cons ?_ ?_
      · exact R.ret n_size.e n_text.nd
      · exact R.nil
noncomputable def nm_skip_to_command:List Str:=["text","at"]
@[reducible] noncomputable def sh_skip_to_command (d:Nat):Sh:=⟨scopeOf (stm 12),nm_skip_to_command,d⟩
noncomputable def lc_skip_to_command_1:Store→Res Bool:=(tCmp inD (dCut (getV 0) (pOf (getV 1)) (pOf (dBin addD (getV 1) (dK (.int 1))))) (dTup (aCons (dK (.str "\n")) (aCons (dK (.str ";")) (aCons (dK (.str "#")) aNil)))))
noncomputable def lb_skip_to_command_1 (Φ:Oracle):Store→Option Out :=
  sCons (sIte (tCmp eqD (dIdx (getV 0) (getV 1)) (dK (.str "#")))
    (sCons (sAsg 1 (dCall Φ "comment_behind" (aCons (getV 0) (aCons (getV 1) aNil)))) <|
    sNil)
    (sCons (sAug addD 1 (dK (.int 1))) <|
    sNil)) <|
  sCons (sAsg 1 (dCall Φ "skip_gaps" (aCons (getV 0) (aCons (getV 1) aNil)))) <|
  sNil
theorem nd_skip_to_command:nm_skip_to_command.Nodup:=by decide
noncomputable def den_skip_to_command (Φ:Oracle):Store→Option Out :=
  sCons (sAsg 1 (dCall Φ "skip_gaps" (aCons (getV 0) (aCons (getV 1) aNil)))) <|
  sCons (sWhile lc_skip_to_command_1 (lb_skip_to_command_1 Φ)) <|
  sCons (sRet (getV 1)) <|
  sNil
theorem ss_skip_to_command {C:Cx} (w:W C) {Φ:Oracle} {d:Nat} (hd:3 ≤ d) (hΦ:Good C d Φ):SS C (sh_skip_to_command d) (bodyOf (stm 12)) (den_skip_to_command Φ):=by
  have n_text:Slot (sh_skip_to_command d) 0 "text":=⟨⟨by decide,rfl,rfl,nd_skip_to_command⟩,rfl,rfl⟩
  have n_at:Slot (sh_skip_to_command d) 1 "at":=⟨⟨by decide,rfl,rfl,nd_skip_to_command⟩,rfl,rfl⟩
  refine R.cons ?_ ?_
  · exact R.assign (SE.callW w hΦ (by decide) rfl rfl rfl (R.consA n_text.e (R.consA n_at.e R.nilA))) n_at.s
  · refine R.cons ?_ ?_
    · refine R.while_ (R.cmpT CmpOk.in_ (R.cut n_text.e (R.ofP n_at.e) (R.ofP (R.bin BinOk.add n_at.e R.cint))) (R.tuple (R.consA R.cstr (R.consA R.cstr (R.consA R.cstr R.nilA))))) ?_
      · refine R.cons ?_ ?_
        · refine R.ite (R.cmpT CmpOk.eq (R.index n_text.e n_at.e) R.cstr) ?_ ?_
          · refine R.cons ?_ ?_
            · exact R.assign (SE.callW w hΦ (by decide) rfl rfl rfl (R.consA n_text.e (R.consA n_at.e R.nilA))) n_at.s
            · exact R.nil
          · refine R.cons ?_ ?_
            · exact R.aug BinOk.add R.cint n_at.s n_at.k
            · exact R.nil
        · refine R.cons ?_ ?_
          · exact R.assign (SE.callW w hΦ (by decide) rfl rfl rfl (R.consA n_text.e (R.consA n_at.e R.nilA))) n_at.s
          · exact R.nil
    · refine R.cons ?_ ?_
      · exact R.ret n_at.e n_text.nd
      · exact R.nil
noncomputable def nm_read_name:List Str:=["text","at"]
@[reducible] noncomputable def sh_read_name (d:Nat):Sh:=⟨scopeOf (stm 13),nm_read_name,d⟩
noncomputable def lc_read_name_1:Store→Res Bool:=(tCmp eqD (dCut (getV 0) (pOf (getV 1)) (pOf (dBin addD (getV 1) (dK (.int 1))))) (dK (.str ":")))
noncomputable def lb_read_name_1 (_:Oracle):Store→Option Out :=
  sCons (sAug addD 1 (dK (.int 1))) <|
  sNil
noncomputable def lc_read_name_2:Store→Res Bool:=(tCmp (ordD fun a b=>decide (a < b)) (getV 1) (dOn lenD (getV 0)))
noncomputable def lb_read_name_2 (Φ:Oracle):Store→Option Out :=
  sCons (sIte (tOr (tCmp eqD (dIdx (getV 0) (getV 1)) (dK (.str "_"))) (tOr (tCmp (ordD fun a b=>decide (b ≤ a)) (dCall Φ "digit" (aCons (dIdx (getV 0) (getV 1)) aNil)) (dK (.int 0))) tOr0))
    (sCons (sAug addD 1 (dK (.int 1))) <|
    sNil)
    (sCons (sIte (tCmp eqD (dCut (getV 0) (pOf (getV 1)) (pOf (dBin addD (getV 1) (dK (.int 2))))) (dK (.str "::")))
      (sCons (sAug addD 1 (dK (.int 2))) <|
      sCons (sWhile lc_read_name_1 (lb_read_name_1 Φ)) <|
      sNil)
      (sCons (sRet (getV 1)) <|
      sNil)) <|
    sNil)) <|
  sNil
theorem nd_read_name:nm_read_name.Nodup:=by decide
noncomputable def den_read_name (Φ:Oracle):Store→Option Out :=
  sCons (sWhile lc_read_name_2 (lb_read_name_2 Φ)) <|
  sCons (sRet (getV 1)) <|
  sNil
theorem ss_read_name {C:Cx} (w:W C) {Φ:Oracle} {d:Nat} (hd:3 ≤ d) (hΦ:Good C d Φ):SS C (sh_read_name d) (bodyOf (stm 13)) (den_read_name Φ):=by
  have n_text:Slot (sh_read_name d) 0 "text":=⟨⟨by decide,rfl,rfl,nd_read_name⟩,rfl,rfl⟩
  have n_at:Slot (sh_read_name d) 1 "at":=⟨⟨by decide,rfl,rfl,nd_read_name⟩,rfl,rfl⟩
  refine R.cons ?_ ?_
  · refine R.while_ (R.cmpT CmpOk.lt n_at.e (R.blt1 w.G Blt1.len (w.no _ (by decide)) boot_len (by decide) rfl rfl rfl n_text.e)) ?_
    · refine R.cons ?_ ?_
      · refine R.ite (R.or (R.cmpT CmpOk.eq (R.index n_text.e n_at.e) R.cstr) (R.or (R.cmpT CmpOk.ge (SE.callW w hΦ (by decide) rfl rfl rfl (R.consA (R.index n_text.e n_at.e) R.nilA)) R.cint) R.or_nil)) ?_ ?_
        · refine R.cons ?_ ?_
          · exact R.aug BinOk.add R.cint n_at.s n_at.k
          · exact R.nil
        · refine R.cons ?_ ?_
          · refine R.ite (R.cmpT CmpOk.eq (R.cut n_text.e (R.ofP n_at.e) (R.ofP (R.bin BinOk.add n_at.e R.cint))) R.cstr) ?_ ?_
            · refine R.cons ?_ ?_
              · exact R.aug BinOk.add R.cint n_at.s n_at.k
              · refine R.cons ?_ ?_
                · refine R.while_ (R.cmpT CmpOk.eq (R.cut n_text.e (R.ofP n_at.e) (R.ofP (R.bin BinOk.add n_at.e R.cint))) R.cstr) ?_
                  · refine R.cons ?_ ?_
                    · exact R.aug BinOk.add R.cint n_at.s n_at.k
                    · exact R.nil
                · exact R.nil
            · refine R.cons ?_ ?_
              · exact R.ret n_at.e n_text.nd
              · exact R.nil
          · exact R.nil
      · exact R.nil
  · refine R.cons ?_ ?_
    · exact R.ret n_at.e n_text.nd
    · exact R.nil
noncomputable def nm_bare_stops:List Str:=["is_nested"]
@[reducible] noncomputable def sh_bare_stops (d:Nat):Sh:=⟨scopeOf (stm 18),nm_bare_stops,d⟩
theorem nd_bare_stops:nm_bare_stops.Nodup:=by decide
noncomputable def den_bare_stops (_:Oracle):Store→Option Out :=
  sCons (sIte (tPlain (getV 0))
    (sCons (sRet (dTup (aCons (dK (.str " ")) (aCons (dK (.str "\x09")) (aCons (dK (.str "\x0b")) (aCons (dK (.str "\x0c")) (aCons (dK (.str "\x0d")) (aCons (dK (.str "\n")) (aCons (dK (.str ";")) (aCons (dK (.str "]")) aNil)))))))))) <|
    sNil)
    (sNil)) <|
  sCons (sRet (dTup (aCons (dK (.str " ")) (aCons (dK (.str "\x09")) (aCons (dK (.str "\x0b")) (aCons (dK (.str "\x0c")) (aCons (dK (.str "\x0d")) (aCons (dK (.str "\n")) (aCons (dK (.str ";")) aNil))))))))) <|
  sNil
theorem ss_bare_stops {C:Cx} (w:W C) {Φ:Oracle} {d:Nat} (hd:3 ≤ d) (hΦ:Good C d Φ):SS C (sh_bare_stops d) (bodyOf (stm 18)) (den_bare_stops Φ):=by
  have n_is_nested:Slot (sh_bare_stops d) 0 "is_nested":=⟨⟨by decide,rfl,rfl,nd_bare_stops⟩,rfl,rfl⟩
  refine R.cons ?_ ?_
  · refine R.ite (R.plain n_is_nested.e) ?_ ?_
    · refine R.cons ?_ ?_
      · exact R.ret (R.tuple (R.consA R.cstr (R.consA R.cstr (R.consA R.cstr (R.consA R.cstr (R.consA R.cstr (R.consA R.cstr (R.consA R.cstr (R.consA R.cstr R.nilA))))))))) n_is_nested.nd
      · exact R.nil
    · exact R.nil
  · refine R.cons ?_ ?_
    · exact R.ret (R.tuple (R.consA R.cstr (R.consA R.cstr (R.consA R.cstr (R.consA R.cstr (R.consA R.cstr (R.consA R.cstr (R.consA R.cstr R.nilA)))))))) n_is_nested.nd
    · exact R.nil
noncomputable def nm_is_expanded:List Str:=["text","at","behind"]
@[reducible] noncomputable def sh_is_expanded (d:Nat):Sh:=⟨scopeOf (stm 19),nm_is_expanded,d⟩
theorem nd_is_expanded:nm_is_expanded.Nodup:=by decide
noncomputable def den_is_expanded (Φ:Oracle):Store→Option Out :=
  sCons (sIte (tCmp neD (dCut (getV 0) (pOf (getV 1)) (pOf (dBin addD (getV 1) (dK (.int 3))))) (dK (.str "{*}")))
    (sCons (sRet (dK (.bool false))) <|
    sNil)
    (sNil)) <|
  sCons (sAsg 2 (dBin addD (getV 1) (dK (.int 3)))) <|
  sCons (sIte (tCmp inD (dCut (getV 0) (pOf (getV 2)) (pOf (dBin addD (getV 2) (dK (.int 1))))) (dTup (aCons (dK (.str "")) (aCons (dK (.str "\n")) (aCons (dK (.str ";")) aNil)))))
    (sCons (sRet (dK (.bool false))) <|
    sNil)
    (sNil)) <|
  sCons (sRet (dCmp eqD (dCall Φ "skip_gaps" (aCons (getV 0) (aCons (getV 2) aNil))) (getV 2))) <|
  sNil
theorem ss_is_expanded {C:Cx} (w:W C) {Φ:Oracle} {d:Nat} (hd:3 ≤ d) (hΦ:Good C d Φ):SS C (sh_is_expanded d) (bodyOf (stm 19)) (den_is_expanded Φ):=by
  have n_text:Slot (sh_is_expanded d) 0 "text":=⟨⟨by decide,rfl,rfl,nd_is_expanded⟩,rfl,rfl⟩
  have n_at:Slot (sh_is_expanded d) 1 "at":=⟨⟨by decide,rfl,rfl,nd_is_expanded⟩,rfl,rfl⟩
  have n_behind:Slot (sh_is_expanded d) 2 "behind":=⟨⟨by decide,rfl,rfl,nd_is_expanded⟩,rfl,rfl⟩
  refine R.cons ?_ ?_
  · refine R.ite (R.cmpT CmpOk.ne (R.cut n_text.e (R.ofP n_at.e) (R.ofP (R.bin BinOk.add n_at.e R.cint))) R.cstr) ?_ ?_
    · refine R.cons ?_ ?_
      · exact R.ret R.cbool n_text.nd
      · exact R.nil
    · exact R.nil
  · refine R.cons ?_ ?_
    · exact R.assign (R.bin BinOk.add n_at.e R.cint) n_behind.s
    · refine R.cons ?_ ?_
      · refine R.ite (R.cmpT CmpOk.in_ (R.cut n_text.e (R.ofP n_behind.e) (R.ofP (R.bin BinOk.add n_behind.e R.cint))) (R.tuple (R.consA R.cstr (R.consA R.cstr (R.consA R.cstr R.nilA))))) ?_ ?_
        · refine R.cons ?_ ?_
          · exact R.ret R.cbool n_text.nd
          · exact R.nil
        · exact R.nil
      · refine R.cons ?_ ?_
        · exact R.ret (R.cmp CmpOk.eq (SE.callW w hΦ (by decide) rfl rfl rfl (R.consA n_text.e (R.consA n_behind.e R.nilA))) n_behind.e) n_text.nd
        · exact R.nil
end Mine
end
section
set_option tactic.hygienic false
open PySem PySem.W PyProof.Rows PySem.Spec PySem.Calls
namespace Mine
noncomputable def nm_variable:List Str:=["text","at","begin","close","behind","index"]
@[reducible] noncomputable def sh_variable (d:Nat):Sh:=⟨scopeOf (stm 14),nm_variable,d⟩
theorem nd_variable:nm_variable.Nodup:=by decide
noncomputable def den_variable (Φ:Oracle):Store→Option Out :=
  sCons (sAsg 2 (dBin addD (getV 1) (dK (.int 1)))) <|
  sCons (sIte (tCmp eqD (dCut (getV 0) (pOf (getV 2)) (pOf (dBin addD (getV 2) (dK (.int 1))))) (dK (.str "{")))
    (sCons (sAsg 3 (dMeth findD (getV 0) (aCons (dK (.str "}")) (aCons (getV 2) aNil)))) <|
    sCons (sIte (tCmp (ordD fun a b=>decide (a < b)) (getV 3) (dK (.int 0)))
      (sCons (sRaise "missing close-brace for variable name") <|
      sNil)
      (sNil)) <|
    sCons (sRet (dTup (aCons (dTup (aCons (dK (.str "var")) (aCons (dCut (getV 0) (pOf (dBin addD (getV 2) (dK (.int 1)))) (pOf (getV 3))) (aCons (dK .none) aNil)))) (aCons (dBin addD (getV 3) (dK (.int 1))) aNil)))) <|
    sNil)
    (sNil)) <|
  sCons (sAsg 4 (dCall Φ "read_name" (aCons (getV 0) (aCons (getV 2) aNil)))) <|
  sCons (sIte (tCmp eqD (dCut (getV 0) (pOf (getV 4)) (pOf (dBin addD (getV 4) (dK (.int 1))))) (dK (.str "(")))
    (sCons (sUnp [5,3] (dCall Φ "parts_until" (aCons (getV 0) (aCons (dBin addD (getV 4) (dK (.int 1))) (aCons (dTup (aCons (dK (.str ")")) aNil)) aNil))))) <|
    sCons (sIte (tCmp (ordD fun a b=>decide (b ≤ a)) (getV 3) (dOn lenD (getV 0)))
      (sCons (sRaise "missing )") <|
      sNil)
      (sNil)) <|
    sCons (sRet (dTup (aCons (dTup (aCons (dK (.str "var")) (aCons (dCut (getV 0) (pOf (getV 2)) (pOf (getV 4))) (aCons (getV 5) aNil)))) (aCons (dBin addD (getV 3) (dK (.int 1))) aNil)))) <|
    sNil)
    (sNil)) <|
  sCons (sIte (tCmp eqD (getV 4) (getV 2))
    (sCons (sRet (dTup (aCons (dTup (aCons (dK (.str "text")) (aCons (dK (.str "$")) aNil))) (aCons (getV 2) aNil)))) <|
    sNil)
    (sNil)) <|
  sCons (sRet (dTup (aCons (dTup (aCons (dK (.str "var")) (aCons (dCut (getV 0) (pOf (getV 2)) (pOf (getV 4))) (aCons (dK .none) aNil)))) (aCons (getV 4) aNil)))) <|
  sNil
theorem ss_variable {C:Cx} (w:W C) {Φ:Oracle} {d:Nat} (hd:3 ≤ d) (hΦ:Good C d Φ):SS C (sh_variable d) (bodyOf (stm 14)) (den_variable Φ):=by
  have n_text:Slot (sh_variable d) 0 "text":=⟨⟨by decide,rfl,rfl,nd_variable⟩,rfl,rfl⟩
  have n_at:Slot (sh_variable d) 1 "at":=⟨⟨by decide,rfl,rfl,nd_variable⟩,rfl,rfl⟩
  have n_begin:Slot (sh_variable d) 2 "begin":=⟨⟨by decide,rfl,rfl,nd_variable⟩,rfl,rfl⟩
  have n_close:Slot (sh_variable d) 3 "close":=⟨⟨by decide,rfl,rfl,nd_variable⟩,rfl,rfl⟩
  have n_behind:Slot (sh_variable d) 4 "behind":=⟨⟨by decide,rfl,rfl,nd_variable⟩,rfl,rfl⟩
  have n_index:Slot (sh_variable d) 5 "index":=⟨⟨by decide,rfl,rfl,nd_variable⟩,rfl,rfl⟩
  refine R.cons ?_ ?_
  · exact R.assign (R.bin BinOk.add n_at.e R.cint) n_begin.s
  · refine R.cons ?_ ?_
    · refine R.ite (R.cmpT CmpOk.eq (R.cut n_text.e (R.ofP n_begin.e) (R.ofP (R.bin BinOk.add n_begin.e R.cint))) R.cstr) ?_ ?_
      · refine R.cons ?_ ?_
        · exact R.assign (R.meth Mth.find n_text.e (R.consA R.cstr (R.consA n_begin.e R.nilA))) n_close.s
        · refine R.cons ?_ ?_
          · refine R.ite (R.cmpT CmpOk.lt n_close.e R.cint) ?_ ?_
            · refine R.cons ?_ ?_
              · exact R.raise w.G w.X hd rfl rfl
              · exact R.nil
            · exact R.nil
          · refine R.cons ?_ ?_
            · exact R.ret (R.tuple (R.consA (R.tuple (R.consA R.cstr (R.consA (R.cut n_text.e (R.ofP (R.bin BinOk.add n_begin.e R.cint)) (R.ofP n_close.e)) (R.consA R.cnone R.nilA)))) (R.consA (R.bin BinOk.add n_close.e R.cint) R.nilA))) n_text.nd
            · exact R.nil
      · exact R.nil
    · refine R.cons ?_ ?_
      · exact R.assign (SE.callW w hΦ (by decide) rfl rfl rfl (R.consA n_text.e (R.consA n_begin.e R.nilA))) n_behind.s
      · refine R.cons ?_ ?_
        · refine R.ite (R.cmpT CmpOk.eq (R.cut n_text.e (R.ofP n_behind.e) (R.ofP (R.bin BinOk.add n_behind.e R.cint))) R.cstr) ?_ ?_
          · refine R.cons ?_ ?_
            · exact R.unpack (SE.callW w hΦ (by decide) rfl rfl rfl (R.consA n_text.e (R.consA (R.bin BinOk.add n_behind.e R.cint) (R.consA (R.tuple (R.consA R.cstr R.nilA)) R.nilA)))) (.cons n_index.s (.cons n_close.s TNames.nil))
            · refine R.cons ?_ ?_
              · refine R.ite (R.cmpT CmpOk.ge n_close.e (R.blt1 w.G Blt1.len (w.no _ (by decide)) boot_len (by decide) rfl rfl rfl n_text.e)) ?_ ?_
                · refine R.cons ?_ ?_
                  · exact R.raise w.G w.X hd rfl rfl
                  · exact R.nil
                · exact R.nil
              · refine R.cons ?_ ?_
                · exact R.ret (R.tuple (R.consA (R.tuple (R.consA R.cstr (R.consA (R.cut n_text.e (R.ofP n_begin.e) (R.ofP n_behind.e)) (R.consA n_index.e R.nilA)))) (R.consA (R.bin BinOk.add n_close.e R.cint) R.nilA))) n_text.nd
                · exact R.nil
          · exact R.nil
        · refine R.cons ?_ ?_
          · refine R.ite (R.cmpT CmpOk.eq n_behind.e n_begin.e) ?_ ?_
            · refine R.cons ?_ ?_
              · exact R.ret (R.tuple (R.consA (R.tuple (R.consA R.cstr (R.consA R.cstr R.nilA))) (R.consA n_begin.e R.nilA))) n_text.nd
              · exact R.nil
            · exact R.nil
          · refine R.cons ?_ ?_
            · exact R.ret (R.tuple (R.consA (R.tuple (R.consA R.cstr (R.consA (R.cut n_text.e (R.ofP n_begin.e) (R.ofP n_behind.e)) (R.consA R.cnone R.nilA)))) (R.consA n_behind.e R.nilA))) n_text.nd
            · exact R.nil
noncomputable def nm_brackets:List Str:=["text","at","begin","place","command"]
@[reducible] noncomputable def sh_brackets (d:Nat):Sh:=⟨scopeOf (stm 15),nm_brackets,d⟩
noncomputable def lc_brackets_1:Store→Res Bool:=(tAnd (tCmp (ordD fun a b=>decide (a < b)) (getV 3) (dOn lenD (getV 0))) (tAnd (tCmp neD (dIdx (getV 0) (getV 3)) (dK (.str "]"))) tAnd0))
noncomputable def lb_brackets_1 (Φ:Oracle):Store→Option Out :=
  sCons (sAsg 4 (dCall Φ "command_at" (aCons (getV 0) (aCons (getV 3) (aCons (dK (.bool true)) aNil))))) <|
  sCons (sAsg 3 (dCall Φ "skip_to_command" (aCons (getV 0) (aCons (dIdx (getV 4) (dK (.int 3))) aNil)))) <|
  sNil
theorem nd_brackets:nm_brackets.Nodup:=by decide
noncomputable def den_brackets (Φ:Oracle):Store→Option Out :=
  sCons (sAsg 2 (dBin addD (getV 1) (dK (.int 1)))) <|
  sCons (sAsg 3 (dCall Φ "skip_to_command" (aCons (getV 0) (aCons (getV 2) aNil)))) <|
  sCons (sWhile lc_brackets_1 (lb_brackets_1 Φ)) <|
  sCons (sIte (tCmp (ordD fun a b=>decide (b ≤ a)) (getV 3) (dOn lenD (getV 0)))
    (sCons (sRaise "missing close-bracket") <|
    sNil)
    (sNil)) <|
  sCons (sRet (dTup (aCons (dCut (getV 0) (pOf (getV 2)) (pOf (getV 3))) (aCons (dBin addD (getV 3) (dK (.int 1))) aNil)))) <|
  sNil
theorem ss_brackets {C:Cx} (w:W C) {Φ:Oracle} {d:Nat} (hd:3 ≤ d) (hΦ:Good C d Φ):SS C (sh_brackets d) (bodyOf (stm 15)) (den_brackets Φ):=by
  have n_text:Slot (sh_brackets d) 0 "text":=⟨⟨by decide,rfl,rfl,nd_brackets⟩,rfl,rfl⟩
  have n_at:Slot (sh_brackets d) 1 "at":=⟨⟨by decide,rfl,rfl,nd_brackets⟩,rfl,rfl⟩
  have n_begin:Slot (sh_brackets d) 2 "begin":=⟨⟨by decide,rfl,rfl,nd_brackets⟩,rfl,rfl⟩
  have n_place:Slot (sh_brackets d) 3 "place":=⟨⟨by decide,rfl,rfl,nd_brackets⟩,rfl,rfl⟩
  have n_command:Slot (sh_brackets d) 4 "command":=⟨⟨by decide,rfl,rfl,nd_brackets⟩,rfl,rfl⟩
  refine R.cons ?_ ?_
  · exact R.assign (R.bin BinOk.add n_at.e R.cint) n_begin.s
  · refine R.cons ?_ ?_
    · exact R.assign (SE.callW w hΦ (by decide) rfl rfl rfl (R.consA n_text.e (R.consA n_begin.e R.nilA))) n_place.s
    · refine R.cons ?_ ?_
      · refine R.while_ (R.and (R.cmpT CmpOk.lt n_place.e (R.blt1 w.G Blt1.len (w.no _ (by decide)) boot_len (by decide) rfl rfl rfl n_text.e)) (R.and (R.cmpT CmpOk.ne (R.index n_text.e n_place.e) R.cstr) R.and_nil)) ?_
        · refine R.cons ?_ ?_
          · exact R.assign (SE.callW w hΦ (by decide) rfl rfl rfl (R.consA n_text.e (R.consA n_place.e (R.consA R.cbool R.nilA)))) n_command.s
          · refine R.cons ?_ ?_
            · exact R.assign (SE.callW w hΦ (by decide) rfl rfl rfl (R.consA n_text.e (R.consA (R.index n_command.e R.cint) R.nilA))) n_place.s
            · exact R.nil
      · refine R.cons ?_ ?_
        · refine R.ite (R.cmpT CmpOk.ge n_place.e (R.blt1 w.G Blt1.len (w.no _ (by decide)) boot_len (by decide) rfl rfl rfl n_text.e)) ?_ ?_
          · refine R.cons ?_ ?_
            · exact R.raise w.G w.X hd rfl rfl
            · exact R.nil
          · exact R.nil
        · refine R.cons ?_ ?_
          · exact R.ret (R.tuple (R.consA (R.cut n_text.e (R.ofP n_begin.e) (R.ofP n_place.e)) (R.consA (R.bin BinOk.add n_place.e R.cint) R.nilA))) n_text.nd
          · exact R.nil
noncomputable def nm_braces:List Str:=["text","at","size","begin","place","made","depth","blank","behind"]
@[reducible] noncomputable def sh_braces (d:Nat):Sh:=⟨scopeOf (stm 16),nm_braces,d⟩
noncomputable def lc_braces_1:Store→Res Bool:=(tAnd (tCmp (ordD fun a b=>decide (a < b)) (getV 4) (getV 2)) (tAnd (tCmp ninD (dIdx (getV 0) (getV 4)) (dK (.str "{}\\"))) tAnd0))
noncomputable def lb_braces_1 (_:Oracle):Store→Option Out :=
  sCons (sAug addD 4 (dK (.int 1))) <|
  sNil
noncomputable def lc_braces_2:Store→Res Bool:=(tCmp (ordD fun a b=>decide (a < b)) (getV 4) (getV 2))
noncomputable def lb_braces_2 (Φ:Oracle):Store→Option Out :=
  sCons (sIte (tCmp eqD (dIdx (getV 0) (getV 4)) (dK (.str "{")))
    (sCons (sAug addD 6 (dK (.int 1))) <|
    sCons (sAug addD 4 (dK (.int 1))) <|
    sNil)
    (sCons (sIte (tCmp eqD (dIdx (getV 0) (getV 4)) (dK (.str "}")))
      (sCons (sAug subD 6 (dK (.int 1))) <|
      sCons (sAug addD 4 (dK (.int 1))) <|
      sCons (sIte (tCmp eqD (getV 6) (dK (.int 0)))
        (sCons (sRet (dTup (aCons (dBin addD (getV 5) (dCut (getV 0) (pOf (getV 3)) (pOf (dBin subD (getV 4) (dK (.int 1)))))) (aCons (getV 4) aNil)))) <|
        sNil)
        (sNil)) <|
      sNil)
      (sCons (sIte (tCmp eqD (dCut (getV 0) (pOf (getV 4)) (pOf (dBin addD (getV 4) (dK (.int 2))))) (dK (.str "\\\n")))
        (sCons (sUnp [7,8] (dCall Φ "backslash" (aCons (getV 0) (aCons (getV 4) aNil)))) <|
        sCons (sAug addD 5 (dBin addD (dCut (getV 0) (pOf (getV 3)) (pOf (getV 4))) (getV 7))) <|
        sCons (sAsg 4 (getV 8)) <|
        sCons (sAsg 3 (getV 8)) <|
        sNil)
        (sCons (sIte (tCmp eqD (dIdx (getV 0) (getV 4)) (dK (.str "\\")))
          (sCons (sAug addD 4 (dK (.int 2))) <|
          sNil)
          (sCons (sWhile lc_braces_1 (lb_braces_1 Φ)) <|
          sNil)) <|
        sNil)) <|
      sNil)) <|
    sNil)) <|
  sNil
theorem nd_braces:nm_braces.Nodup:=by decide
noncomputable def den_braces (Φ:Oracle):Store→Option Out :=
  sCons (sAsg 2 (dOn lenD (getV 0))) <|
  sCons (sAsg 3 (dBin addD (getV 1) (dK (.int 1)))) <|
  sCons (sAsg 4 (getV 3)) <|
  sCons (sAsg 5 (dK (.str ""))) <|
  sCons (sAsg 6 (dK (.int 1))) <|
  sCons (sWhile lc_braces_2 (lb_braces_2 Φ)) <|
  sCons (sRaise "missing close-brace") <|
  sNil
theorem ss_braces {C:Cx} (w:W C) {Φ:Oracle} {d:Nat} (hd:3 ≤ d) (hΦ:Good C d Φ):SS C (sh_braces d) (bodyOf (stm 16)) (den_braces Φ):=by
  have n_text:Slot (sh_braces d) 0 "text":=⟨⟨by decide,rfl,rfl,nd_braces⟩,rfl,rfl⟩
  have n_at:Slot (sh_braces d) 1 "at":=⟨⟨by decide,rfl,rfl,nd_braces⟩,rfl,rfl⟩
  have n_size:Slot (sh_braces d) 2 "size":=⟨⟨by decide,rfl,rfl,nd_braces⟩,rfl,rfl⟩
  have n_begin:Slot (sh_braces d) 3 "begin":=⟨⟨by decide,rfl,rfl,nd_braces⟩,rfl,rfl⟩
  have n_place:Slot (sh_braces d) 4 "place":=⟨⟨by decide,rfl,rfl,nd_braces⟩,rfl,rfl⟩
  have n_made:Slot (sh_braces d) 5 "made":=⟨⟨by decide,rfl,rfl,nd_braces⟩,rfl,rfl⟩
  have n_depth:Slot (sh_braces d) 6 "depth":=⟨⟨by decide,rfl,rfl,nd_braces⟩,rfl,rfl⟩
  have n_blank:Slot (sh_braces d) 7 "blank":=⟨⟨by decide,rfl,rfl,nd_braces⟩,rfl,rfl⟩
  have n_behind:Slot (sh_braces d) 8 "behind":=⟨⟨by decide,rfl,rfl,nd_braces⟩,rfl,rfl⟩
  refine R.cons ?_ ?_
  · exact R.assign (R.blt1 w.G Blt1.len (w.no _ (by decide)) boot_len (by decide) rfl rfl rfl n_text.e) n_size.s
  · refine R.cons ?_ ?_
    · exact R.assign (R.bin BinOk.add n_at.e R.cint) n_begin.s
    · refine R.cons ?_ ?_
      · exact R.assign n_begin.e n_place.s
      · refine R.cons ?_ ?_
        · exact R.assign R.cstr n_made.s
        · refine R.cons ?_ ?_
          · exact R.assign R.cint n_depth.s
          · refine R.cons ?_ ?_
            · refine R.while_ (R.cmpT CmpOk.lt n_place.e n_size.e) ?_
              · refine R.cons ?_ ?_
                · refine R.ite (R.cmpT CmpOk.eq (R.index n_text.e n_place.e) R.cstr) ?_ ?_
                  · refine R.cons ?_ ?_
                    · exact R.aug BinOk.add R.cint n_depth.s n_depth.k
                    · refine R.cons ?_ ?_
                      · exact R.aug BinOk.add R.cint n_place.s n_place.k
                      · exact R.nil
                  · refine R.cons ?_ ?_
                    · refine R.ite (R.cmpT CmpOk.eq (R.index n_text.e n_place.e) R.cstr) ?_ ?_
                      · refine R.cons ?_ ?_
                        · exact R.aug BinOk.sub R.cint n_depth.s n_depth.k
                        · refine R.cons ?_ ?_
                          · exact R.aug BinOk.add R.cint n_place.s n_place.k
                          · refine R.cons ?_ ?_
                            · refine R.ite (R.cmpT CmpOk.eq n_depth.e R.cint) ?_ ?_
                              · refine R.cons ?_ ?_
                                · exact R.ret (R.tuple (R.consA (R.bin BinOk.add n_made.e (R.cut n_text.e (R.ofP n_begin.e) (R.ofP (R.bin BinOk.sub n_place.e R.cint)))) (R.consA n_place.e R.nilA))) n_text.nd
                                · exact R.nil
                              · exact R.nil
                            · exact R.nil
                      · refine R.cons ?_ ?_
                        · refine R.ite (R.cmpT CmpOk.eq (R.cut n_text.e (R.ofP n_place.e) (R.ofP (R.bin BinOk.add n_place.e R.cint))) R.cstr) ?_ ?_
                          · refine R.cons ?_ ?_
                            · exact R.unpack (SE.callW w hΦ (by decide) rfl rfl rfl (R.consA n_text.e (R.consA n_place.e R.nilA))) (.cons n_blank.s (.cons n_behind.s TNames.nil))
                            · refine R.cons ?_ ?_
                              · exact R.aug BinOk.add (R.bin BinOk.add (R.cut n_text.e (R.ofP n_begin.e) (R.ofP n_place.e)) n_blank.e) n_made.s n_made.k
                              · refine R.cons ?_ ?_
                                · exact R.assign n_behind.e n_place.s
                                · refine R.cons ?_ ?_
                                  · exact R.assign n_behind.e n_begin.s
                                  · exact R.nil
                          · refine R.cons ?_ ?_
                            · refine R.ite (R.cmpT CmpOk.eq (R.index n_text.e n_place.e) R.cstr) ?_ ?_
                              · refine R.cons ?_ ?_
                                · exact R.aug BinOk.add R.cint n_place.s n_place.k
                                · exact R.nil
                              · refine R.cons ?_ ?_
                                · refine R.while_ (R.and (R.cmpT CmpOk.lt n_place.e n_size.e) (R.and (R.cmpT CmpOk.nin (R.index n_text.e n_place.e) R.cstr) R.and_nil)) ?_
                                  · refine R.cons ?_ ?_
                                    · exact R.aug BinOk.add R.cint n_place.s n_place.k
                                    · exact R.nil
                                · exact R.nil
                            · exact R.nil
                        · exact R.nil
                    · exact R.nil
                · exact R.nil
            · refine R.cons ?_ ?_
              · exact R.raise w.G w.X hd rfl rfl
              · exact R.nil
noncomputable def nm_parts_until:List Str:=["text","at","stops","parts","run","size","part","script","piece","begin"]
@[reducible] noncomputable def sh_parts_until (d:Nat):Sh:=⟨scopeOf (stm 17),nm_parts_until,d⟩
noncomputable def lc_parts_until_1:Store→Res Bool:=(tAnd (tCmp (ordD fun a b=>decide (a < b)) (getV 1) (getV 5)) (tAnd (tCmp ninD (dIdx (getV 0) (getV 1)) (dK (.str "$[\\"))) (tAnd (tCmp ninD (dIdx (getV 0) (getV 1)) (getV 2)) tAnd0)))
noncomputable def lb_parts_until_1 (_:Oracle):Store→Option Out :=
  sCons (sAug addD 1 (dK (.int 1))) <|
  sNil
noncomputable def lc_parts_until_2:Store→Res Bool:=(tAnd (tCmp (ordD fun a b=>decide (a < b)) (getV 1) (getV 5)) (tAnd (tCmp ninD (dIdx (getV 0) (getV 1)) (getV 2)) tAnd0))
noncomputable def lb_parts_until_2 (Φ:Oracle):Store→Option Out :=
  sCons (sIte (tCmp eqD (dIdx (getV 0) (getV 1)) (dK (.str "$")))
    (sCons (sUnp [6,1] (dCall Φ "variable" (aCons (getV 0) (aCons (getV 1) aNil)))) <|
    sNil)
    (sCons (sIte (tCmp eqD (dIdx (getV 0) (getV 1)) (dK (.str "[")))
      (sCons (sUnp [7,1] (dCall Φ "brackets" (aCons (getV 0) (aCons (getV 1) aNil)))) <|
      sCons (sAsg 6 (dTup (aCons (dK (.str "cmd")) (aCons (getV 7) aNil)))) <|
      sNil)
      (sCons (sIte (tCmp eqD (dIdx (getV 0) (getV 1)) (dK (.str "\\")))
        (sCons (sIte (tAnd (tCmp inD (dK (.str " ")) (getV 2)) (tAnd (tCmp eqD (dCut (getV 0) (pOf (dBin addD (getV 1) (dK (.int 1)))) (pOf (dBin addD (getV 1) (dK (.int 2))))) (dK (.str "\n"))) tAnd0))
          (sCons (sBrk) <|
          sNil)
          (sNil)) <|
        sCons (sUnp [8,1] (dCall Φ "backslash" (aCons (getV 0) (aCons (getV 1) aNil)))) <|
        sCons (sAsg 6 (dTup (aCons (dK (.str "text")) (aCons (getV 8) aNil)))) <|
        sNil)
        (sCons (sAsg 9 (getV 1)) <|
        sCons (sWhile lc_parts_until_1 (lb_parts_until_1 Φ)) <|
        sCons (sAsg 6 (dTup (aCons (dK (.str "text")) (aCons (dCut (getV 0) (pOf (getV 9)) (pOf (getV 1))) aNil)))) <|
        sNil)) <|
      sNil)) <|
    sNil)) <|
  sCons (sIte (tCmp eqD (dIdx (getV 6) (dK (.int 0))) (dK (.str "text")))
    (sCons (sAug addD 4 (dIdx (getV 6) (dK (.int 1)))) <|
    sNil)
    (sCons (sIte (tCmp neD (getV 4) (dK (.str "")))
      (sCons (appV 3 (dTup (aCons (dK (.str "text")) (aCons (getV 4) aNil)))) <|
      sCons (sAsg 4 (dK (.str ""))) <|
      sNil)
      (sNil)) <|
    sCons (appV 3 (getV 6)) <|
    sNil)) <|
  sNil
theorem nd_parts_until:nm_parts_until.Nodup:=by decide
noncomputable def den_parts_until (Φ:Oracle):Store→Option Out :=
  sCons (sOwn 3 (nLst aNil)) <|
  sCons (sAsg 4 (dK (.str ""))) <|
  sCons (sAsg 5 (dOn lenD (getV 0))) <|
  sCons (sWhile lc_parts_until_2 (lb_parts_until_2 Φ)) <|
  sCons (sIte (tCmp neD (getV 4) (dK (.str "")))
    (sCons (appV 3 (dTup (aCons (dK (.str "text")) (aCons (getV 4) aNil)))) <|
    sNil)
    (sNil)) <|
  sCons (sRet (dTup (aCons (dOn tupleF (getV 3)) (aCons (getV 1) aNil)))) <|
  sNil
theorem ss_parts_until {C:Cx} (w:W C) {Φ:Oracle} {d:Nat} (hd:3 ≤ d) (hΦ:Good C d Φ):SS C (sh_parts_until d) (bodyOf (stm 17)) (den_parts_until Φ):=by
  have n_text:Slot (sh_parts_until d) 0 "text":=⟨⟨by decide,rfl,rfl,nd_parts_until⟩,rfl,rfl⟩
  have n_at:Slot (sh_parts_until d) 1 "at":=⟨⟨by decide,rfl,rfl,nd_parts_until⟩,rfl,rfl⟩
  have n_stops:Slot (sh_parts_until d) 2 "stops":=⟨⟨by decide,rfl,rfl,nd_parts_until⟩,rfl,rfl⟩
  have n_parts:Slot (sh_parts_until d) 3 "parts":=⟨⟨by decide,rfl,rfl,nd_parts_until⟩,rfl,rfl⟩
  have n_run:Slot (sh_parts_until d) 4 "run":=⟨⟨by decide,rfl,rfl,nd_parts_until⟩,rfl,rfl⟩
  have n_size:Slot (sh_parts_until d) 5 "size":=⟨⟨by decide,rfl,rfl,nd_parts_until⟩,rfl,rfl⟩
  have n_part:Slot (sh_parts_until d) 6 "part":=⟨⟨by decide,rfl,rfl,nd_parts_until⟩,rfl,rfl⟩
  have n_script:Slot (sh_parts_until d) 7 "script":=⟨⟨by decide,rfl,rfl,nd_parts_until⟩,rfl,rfl⟩
  have n_piece:Slot (sh_parts_until d) 8 "piece":=⟨⟨by decide,rfl,rfl,nd_parts_until⟩,rfl,rfl⟩
  have n_begin:Slot (sh_parts_until d) 9 "begin":=⟨⟨by decide,rfl,rfl,nd_parts_until⟩,rfl,rfl⟩
  refine R.cons ?_ ?_
  · exact R.own (R.listN R.nilA) n_parts.s
  · refine R.cons ?_ ?_
    · exact R.assign R.cstr n_run.s
    · refine R.cons ?_ ?_
      · exact R.assign (R.blt1 w.G Blt1.len (w.no _ (by decide)) boot_len (by decide) rfl rfl rfl n_text.e) n_size.s
      · refine R.cons ?_ ?_
        · refine R.while_ (R.and (R.cmpT CmpOk.lt n_at.e n_size.e) (R.and (R.cmpT CmpOk.nin (R.index n_text.e n_at.e) n_stops.e) R.and_nil)) ?_
          · refine R.cons ?_ ?_
            · refine R.ite (R.cmpT CmpOk.eq (R.index n_text.e n_at.e) R.cstr) ?_ ?_
              · refine R.cons ?_ ?_
                · exact R.unpack (SE.callW w hΦ (by decide) rfl rfl rfl (R.consA n_text.e (R.consA n_at.e R.nilA))) (.cons n_part.s (.cons n_at.s TNames.nil))
                · exact R.nil
              · refine R.cons ?_ ?_
                · refine R.ite (R.cmpT CmpOk.eq (R.index n_text.e n_at.e) R.cstr) ?_ ?_
                  · refine R.cons ?_ ?_
                    · exact R.unpack (SE.callW w hΦ (by decide) rfl rfl rfl (R.consA n_text.e (R.consA n_at.e R.nilA))) (.cons n_script.s (.cons n_at.s TNames.nil))
                    · refine R.cons ?_ ?_
                      · exact R.assign (R.tuple (R.consA R.cstr (R.consA n_script.e R.nilA))) n_part.s
                      · exact R.nil
                  · refine R.cons ?_ ?_
                    · refine R.ite (R.cmpT CmpOk.eq (R.index n_text.e n_at.e) R.cstr) ?_ ?_
                      · refine R.cons ?_ ?_
                        · refine R.ite (R.and (R.cmpT CmpOk.in_ R.cstr n_stops.e) (R.and (R.cmpT CmpOk.eq (R.cut n_text.e (R.ofP (R.bin BinOk.add n_at.e R.cint)) (R.ofP (R.bin BinOk.add n_at.e R.cint))) R.cstr) R.and_nil)) ?_ ?_
                          · refine R.cons ?_ ?_
                            · exact R.brk
                            · exact R.nil
                          · exact R.nil
                        · refine R.cons ?_ ?_
                          · exact R.unpack (SE.callW w hΦ (by decide) rfl rfl rfl (R.consA n_text.e (R.consA n_at.e R.nilA))) (.cons n_piece.s (.cons n_at.s TNames.nil))
                          · refine R.cons ?_ ?_
                            · exact R.assign (R.tuple (R.consA R.cstr (R.consA n_piece.e R.nilA))) n_part.s
                            · exact R.nil
                      · refine R.cons ?_ ?_
                        · exact R.assign n_at.e n_begin.s
                        · refine R.cons ?_ ?_
                          · refine R.while_ (R.and (R.cmpT CmpOk.lt n_at.e n_size.e) (R.and (R.cmpT CmpOk.nin (R.index n_text.e n_at.e) R.cstr) (R.and (R.cmpT CmpOk.nin (R.index n_text.e n_at.e) n_stops.e) R.and_nil))) ?_
                            · refine R.cons ?_ ?_
                              · exact R.aug BinOk.add R.cint n_at.s n_at.k
                              · exact R.nil
                          · refine R.cons ?_ ?_
                            · exact R.assign (R.tuple (R.consA R.cstr (R.consA (R.cut n_text.e (R.ofP n_begin.e) (R.ofP n_at.e)) R.nilA))) n_part.s
                            · exact R.nil
                    · exact R.nil
                · exact R.nil
            · refine R.cons ?_ ?_
              · refine R.ite (R.cmpT CmpOk.eq (R.index n_part.e R.cint) R.cstr) ?_ ?_
                · refine R.cons ?_ ?_
                  · exact R.aug BinOk.add (R.index n_part.e R.cint) n_run.s n_run.k
                  · exact R.nil
                · refine R.cons ?_ ?_
                  · refine R.ite (R.cmpT CmpOk.ne n_run.e R.cstr) ?_ ?_
                    · refine R.cons ?_ ?_
                      · exact SX.append (R.tuple (R.consA R.cstr (R.consA n_run.e R.nilA))) n_parts.s n_parts.d
                      · refine R.cons ?_ ?_
                        · exact R.assign R.cstr n_run.s
                        · exact R.nil
                    · exact R.nil
                  · refine R.cons ?_ ?_
                    · exact SX.append n_part.e n_parts.s n_parts.d
                    · exact R.nil
              · exact R.nil
        · refine R.cons ?_ ?_
          · refine R.ite (R.cmpT CmpOk.ne n_run.e R.cstr) ?_ ?_
            · refine R.cons ?_ ?_
              · exact SX.append (R.tuple (R.consA R.cstr (R.consA n_run.e R.nilA))) n_parts.s n_parts.d
              · exact R.nil
            · exact R.nil
          · refine R.cons ?_ ?_
            · exact R.ret (R.tuple (R.consA (R.tup w.G (w.no _ (by decide)) rfl rfl n_parts.e) (R.consA n_at.e R.nilA))) n_text.nd
            · exact R.nil
noncomputable def nm_word:List Str:=["text","at","is_nested","is_expand","sign","inner","behind","parts","close"]
@[reducible] noncomputable def sh_word (d:Nat):Sh:=⟨scopeOf (stm 20),nm_word,d⟩
theorem nd_word:nm_word.Nodup:=by decide
noncomputable def den_word (Φ:Oracle):Store→Option Out :=
  sCons (sAsg 3 (dCall Φ "is_expanded" (aCons (getV 0) (aCons (getV 1) aNil)))) <|
  sCons (sIte (tPlain (getV 3))
    (sCons (sAug addD 1 (dK (.int 3))) <|
    sNil)
    (sNil)) <|
  sCons (sAsg 4 (dCut (getV 0) (pOf (getV 1)) (pOf (dBin addD (getV 1) (dK (.int 1)))))) <|
  sCons (sIte (tCmp eqD (getV 4) (dK (.str "{")))
    (sCons (sUnp [5,6] (dCall Φ "braces" (aCons (getV 0) (aCons (getV 1) aNil)))) <|
    sCons (sIte (tCmp eqD (getV 5) (dK (.str "")))
      (sCons (sRet (dTup (aCons (dTup (aCons (getV 3) (aCons (dTup aNil) aNil))) (aCons (getV 6) aNil)))) <|
      sNil)
      (sNil)) <|
    sCons (sRet (dTup (aCons (dTup (aCons (getV 3) (aCons (dTup (aCons (dTup (aCons (dK (.str "text")) (aCons (getV 5) aNil))) aNil)) aNil))) (aCons (getV 6) aNil)))) <|
    sNil)
    (sNil)) <|
  sCons (sIte (tCmp eqD (getV 4) (dK (.str "\"")))
    (sCons (sUnp [7,8] (dCall Φ "parts_until" (aCons (getV 0) (aCons (dBin addD (getV 1) (dK (.int 1))) (aCons (dTup (aCons (dK (.str "\"")) aNil)) aNil))))) <|
    sCons (sIte (tCmp (ordD fun a b=>decide (b ≤ a)) (getV 8) (dOn lenD (getV 0)))
      (sCons (sRaise "missing \"") <|
      sNil)
      (sNil)) <|
    sCons (sRet (dTup (aCons (dTup (aCons (getV 3) (aCons (getV 7) aNil))) (aCons (dBin addD (getV 8) (dK (.int 1))) aNil)))) <|
    sNil)
    (sNil)) <|
  sCons (sUnp [7,6] (dCall Φ "parts_until" (aCons (getV 0) (aCons (getV 1) (aCons (dCall Φ "bare_stops" (aCons (getV 2) aNil)) aNil))))) <|
  sCons (sRet (dTup (aCons (dTup (aCons (getV 3) (aCons (getV 7) aNil))) (aCons (getV 6) aNil)))) <|
  sNil
theorem ss_word {C:Cx} (w:W C) {Φ:Oracle} {d:Nat} (hd:3 ≤ d) (hΦ:Good C d Φ):SS C (sh_word d) (bodyOf (stm 20)) (den_word Φ):=by
  have n_text:Slot (sh_word d) 0 "text":=⟨⟨by decide,rfl,rfl,nd_word⟩,rfl,rfl⟩
  have n_at:Slot (sh_word d) 1 "at":=⟨⟨by decide,rfl,rfl,nd_word⟩,rfl,rfl⟩
  have n_is_nested:Slot (sh_word d) 2 "is_nested":=⟨⟨by decide,rfl,rfl,nd_word⟩,rfl,rfl⟩
  have n_is_expand:Slot (sh_word d) 3 "is_expand":=⟨⟨by decide,rfl,rfl,nd_word⟩,rfl,rfl⟩
  have n_sign:Slot (sh_word d) 4 "sign":=⟨⟨by decide,rfl,rfl,nd_word⟩,rfl,rfl⟩
  have n_inner:Slot (sh_word d) 5 "inner":=⟨⟨by decide,rfl,rfl,nd_word⟩,rfl,rfl⟩
  have n_behind:Slot (sh_word d) 6 "behind":=⟨⟨by decide,rfl,rfl,nd_word⟩,rfl,rfl⟩
  have n_parts:Slot (sh_word d) 7 "parts":=⟨⟨by decide,rfl,rfl,nd_word⟩,rfl,rfl⟩
  have n_close:Slot (sh_word d) 8 "close":=⟨⟨by decide,rfl,rfl,nd_word⟩,rfl,rfl⟩
  refine R.cons ?_ ?_
  · exact R.assign (SE.callW w hΦ (by decide) rfl rfl rfl (R.consA n_text.e (R.consA n_at.e R.nilA))) n_is_expand.s
  · refine R.cons ?_ ?_
    · refine R.ite (R.plain n_is_expand.e) ?_ ?_
      · refine R.cons ?_ ?_
        · exact R.aug BinOk.add R.cint n_at.s n_at.k
        · exact R.nil
      · exact R.nil
    · refine R.cons ?_ ?_
      · exact R.assign (R.cut n_text.e (R.ofP n_at.e) (R.ofP (R.bin BinOk.add n_at.e R.cint))) n_sign.s
      · refine R.cons ?_ ?_
        · refine R.ite (R.cmpT CmpOk.eq n_sign.e R.cstr) ?_ ?_
          · refine R.cons ?_ ?_
            · exact R.unpack (SE.callW w hΦ (by decide) rfl rfl rfl (R.consA n_text.e (R.consA n_at.e R.nilA))) (.cons n_inner.s (.cons n_behind.s TNames.nil))
            · refine R.cons ?_ ?_
              · refine R.ite (R.cmpT CmpOk.eq n_inner.e R.cstr) ?_ ?_
                · refine R.cons ?_ ?_
                  · exact R.ret (R.tuple (R.consA (R.tuple (R.consA n_is_expand.e (R.consA (R.tuple R.nilA) R.nilA))) (R.consA n_behind.e R.nilA))) n_text.nd
                  · exact R.nil
                · exact R.nil
              · refine R.cons ?_ ?_
                · exact R.ret (R.tuple (R.consA (R.tuple (R.consA n_is_expand.e (R.consA (R.tuple (R.consA (R.tuple (R.consA R.cstr (R.consA n_inner.e R.nilA))) R.nilA)) R.nilA))) (R.consA n_behind.e R.nilA))) n_text.nd
                · exact R.nil
          · exact R.nil
        · refine R.cons ?_ ?_
          · refine R.ite (R.cmpT CmpOk.eq n_sign.e R.cstr) ?_ ?_
            · refine R.cons ?_ ?_
              · exact R.unpack (SE.callW w hΦ (by decide) rfl rfl rfl (R.consA n_text.e (R.consA (R.bin BinOk.add n_at.e R.cint) (R.consA (R.tuple (R.consA R.cstr R.nilA)) R.nilA)))) (.cons n_parts.s (.cons n_close.s TNames.nil))
              · refine R.cons ?_ ?_
                · refine R.ite (R.cmpT CmpOk.ge n_close.e (R.blt1 w.G Blt1.len (w.no _ (by decide)) boot_len (by decide) rfl rfl rfl n_text.e)) ?_ ?_
                  · refine R.cons ?_ ?_
                    · exact R.raise w.G w.X hd rfl rfl
                    · exact R.nil
                  · exact R.nil
                · refine R.cons ?_ ?_
                  · exact R.ret (R.tuple (R.consA (R.tuple (R.consA n_is_expand.e (R.consA n_parts.e R.nilA))) (R.consA (R.bin BinOk.add n_close.e R.cint) R.nilA))) n_text.nd
                  · exact R.nil
            · exact R.nil
          · refine R.cons ?_ ?_
            · exact R.unpack (SE.callW w hΦ (by decide) rfl rfl rfl (R.consA n_text.e (R.consA n_at.e (R.consA (SE.callW w hΦ (by decide) rfl rfl rfl (R.consA n_is_nested.e R.nilA)) R.nilA)))) (.cons n_parts.s (.cons n_behind.s TNames.nil))
            · refine R.cons ?_ ?_
              · exact R.ret (R.tuple (R.consA (R.tuple (R.consA n_is_expand.e (R.consA n_parts.e R.nilA))) (R.consA n_behind.e R.nilA))) n_text.nd
              · exact R.nil
noncomputable def nm_command_at:List Str:=["text","at","is_nested","begin","size","words","place","found","end"]
@[reducible] noncomputable def sh_command_at (d:Nat):Sh:=⟨scopeOf (stm 21),nm_command_at,d⟩
noncomputable def lc_command_at_1:Store→Res Bool:=(tPlain (dK (.bool true)))
noncomputable def lb_command_at_1 (Φ:Oracle):Store→Option Out :=
  sCons (sUnp [7,8] (dCall Φ "word" (aCons (getV 0) (aCons (getV 6) (aCons (getV 2) aNil))))) <|
  sCons (appV 5 (getV 7)) <|
  sCons (sAsg 6 (dCall Φ "skip_gaps" (aCons (getV 0) (aCons (getV 8) aNil)))) <|
  sCons (sIte (tCmp (ordD fun a b=>decide (b ≤ a)) (getV 6) (getV 4))
    (sCons (sRet (dTup (aCons (dOn tupleF (getV 5)) (aCons (getV 3) (aCons (getV 8) (aCons (getV 4) aNil)))))) <|
    sNil)
    (sNil)) <|
  sCons (sIte (tCmp inD (dIdx (getV 0) (getV 6)) (dTup (aCons (dK (.str "\n")) (aCons (dK (.str ";")) aNil))))
    (sCons (sRet (dTup (aCons (dOn tupleF (getV 5)) (aCons (getV 3) (aCons (getV 8) (aCons (dBin addD (getV 6) (dK (.int 1))) aNil)))))) <|
    sNil)
    (sNil)) <|
  sCons (sIte (tAnd (tPlain (getV 2)) (tAnd (tCmp eqD (dIdx (getV 0) (getV 6)) (dK (.str "]"))) tAnd0))
    (sCons (sRet (dTup (aCons (dOn tupleF (getV 5)) (aCons (getV 3) (aCons (getV 8) (aCons (getV 6) aNil)))))) <|
    sNil)
    (sNil)) <|
  sCons (sIte (tCmp eqD (getV 6) (getV 8))
    (sCons (sIte (tCmp eqD (dIdx (getV 0) (dBin subD (getV 8) (dK (.int 1)))) (dK (.str "\"")))
      (sCons (sRaise "extra characters after close-quote") <|
      sNil)
      (sNil)) <|
    sCons (sRaise "extra characters after close-brace") <|
    sNil)
    (sNil)) <|
  sNil
theorem nd_command_at:nm_command_at.Nodup:=by decide
noncomputable def den_command_at (Φ:Oracle):Store→Option Out :=
  sCons (sAsg 3 (dCall Φ "skip_to_command" (aCons (getV 0) (aCons (getV 1) aNil)))) <|
  sCons (sAsg 4 (dOn lenD (getV 0))) <|
  sCons (sIte (tOr (tCmp (ordD fun a b=>decide (b ≤ a)) (getV 3) (getV 4)) (tOr (tAnd (tPlain (getV 2)) (tAnd (tCmp eqD (dIdx (getV 0) (getV 3)) (dK (.str "]"))) tAnd0)) tOr0))
    (sCons (sRet (dK .none)) <|
    sNil)
    (sNil)) <|
  sCons (sOwn 5 (nLst aNil)) <|
  sCons (sAsg 6 (getV 3)) <|
  sCons (sWhile lc_command_at_1 (lb_command_at_1 Φ)) <|
  sNil
theorem ss_command_at {C:Cx} (w:W C) {Φ:Oracle} {d:Nat} (hd:3 ≤ d) (hΦ:Good C d Φ):SS C (sh_command_at d) (bodyOf (stm 21)) (den_command_at Φ):=by
  have n_text:Slot (sh_command_at d) 0 "text":=⟨⟨by decide,rfl,rfl,nd_command_at⟩,rfl,rfl⟩
  have n_at:Slot (sh_command_at d) 1 "at":=⟨⟨by decide,rfl,rfl,nd_command_at⟩,rfl,rfl⟩
  have n_is_nested:Slot (sh_command_at d) 2 "is_nested":=⟨⟨by decide,rfl,rfl,nd_command_at⟩,rfl,rfl⟩
  have n_begin:Slot (sh_command_at d) 3 "begin":=⟨⟨by decide,rfl,rfl,nd_command_at⟩,rfl,rfl⟩
  have n_size:Slot (sh_command_at d) 4 "size":=⟨⟨by decide,rfl,rfl,nd_command_at⟩,rfl,rfl⟩
  have n_words:Slot (sh_command_at d) 5 "words":=⟨⟨by decide,rfl,rfl,nd_command_at⟩,rfl,rfl⟩
  have n_place:Slot (sh_command_at d) 6 "place":=⟨⟨by decide,rfl,rfl,nd_command_at⟩,rfl,rfl⟩
  have n_found:Slot (sh_command_at d) 7 "found":=⟨⟨by decide,rfl,rfl,nd_command_at⟩,rfl,rfl⟩
  have n_end:Slot (sh_command_at d) 8 "end":=⟨⟨by decide,rfl,rfl,nd_command_at⟩,rfl,rfl⟩
  refine R.cons ?_ ?_
  · exact R.assign (SE.callW w hΦ (by decide) rfl rfl rfl (R.consA n_text.e (R.consA n_at.e R.nilA))) n_begin.s
  · refine R.cons ?_ ?_
    · exact R.assign (R.blt1 w.G Blt1.len (w.no _ (by decide)) boot_len (by decide) rfl rfl rfl n_text.e) n_size.s
    · refine R.cons ?_ ?_
      · refine R.ite (R.or (R.cmpT CmpOk.ge n_begin.e n_size.e) (R.or (R.and (R.plain n_is_nested.e) (R.and (R.cmpT CmpOk.eq (R.index n_text.e n_begin.e) R.cstr) R.and_nil)) R.or_nil)) ?_ ?_
        · refine R.cons ?_ ?_
          · exact R.ret R.cnone n_text.nd
          · exact R.nil
        · exact R.nil
      · refine R.cons ?_ ?_
        · exact R.own (R.listN R.nilA) n_words.s
        · refine R.cons ?_ ?_
          · exact R.assign n_begin.e n_place.s
          · refine R.cons ?_ ?_
            · refine R.while_ (R.plain R.cbool) ?_
              · refine R.cons ?_ ?_
                · exact R.unpack (SE.callW w hΦ (by decide) rfl rfl rfl (R.consA n_text.e (R.consA n_place.e (R.consA n_is_nested.e R.nilA)))) (.cons n_found.s (.cons n_end.s TNames.nil))
                · refine R.cons ?_ ?_
                  · exact SX.append n_found.e n_words.s n_words.d
                  · refine R.cons ?_ ?_
                    · exact R.assign (SE.callW w hΦ (by decide) rfl rfl rfl (R.consA n_text.e (R.consA n_end.e R.nilA))) n_place.s
                    · refine R.cons ?_ ?_
                      · refine R.ite (R.cmpT CmpOk.ge n_place.e n_size.e) ?_ ?_
                        · refine R.cons ?_ ?_
                          · exact R.ret (R.tuple (R.consA (R.tup w.G (w.no _ (by decide)) rfl rfl n_words.e) (R.consA n_begin.e (R.consA n_end.e (R.consA n_size.e R.nilA))))) n_text.nd
                          · exact R.nil
                        · exact R.nil
                      · refine R.cons ?_ ?_
                        · refine R.ite (R.cmpT CmpOk.in_ (R.index n_text.e n_place.e) (R.tuple (R.consA R.cstr (R.consA R.cstr R.nilA)))) ?_ ?_
                          · refine R.cons ?_ ?_
                            · exact R.ret (R.tuple (R.consA (R.tup w.G (w.no _ (by decide)) rfl rfl n_words.e) (R.consA n_begin.e (R.consA n_end.e (R.consA (R.bin BinOk.add n_place.e R.cint) R.nilA))))) n_text.nd
                            · exact R.nil
                          · exact R.nil
                        · refine R.cons ?_ ?_
                          · refine R.ite (R.and (R.plain n_is_nested.e) (R.and (R.cmpT CmpOk.eq (R.index n_text.e n_place.e) R.cstr) R.and_nil)) ?_ ?_
                            · refine R.cons ?_ ?_
                              · exact R.ret (R.tuple (R.consA (R.tup w.G (w.no _ (by decide)) rfl rfl n_words.e) (R.consA n_begin.e (R.consA n_end.e (R.consA n_place.e R.nilA))))) n_text.nd
                              · exact R.nil
                            · exact R.nil
                          · refine R.cons ?_ ?_
                            · refine R.ite (R.cmpT CmpOk.eq n_place.e n_end.e) ?_ ?_
                              · refine R.cons ?_ ?_
                                · refine R.ite (R.cmpT CmpOk.eq (R.index n_text.e (R.bin BinOk.sub n_end.e R.cint)) R.cstr) ?_ ?_
                                  · refine R.cons ?_ ?_
                                    · exact R.raise w.G w.X hd rfl rfl
                                    · exact R.nil
                                  · exact R.nil
                                · refine R.cons ?_ ?_
                                  · exact R.raise w.G w.X hd rfl rfl
                                  · exact R.nil
                              · exact R.nil
                            · exact R.nil
            · exact R.nil
end Mine
end
section
set_option tactic.hygienic false
open PySem PySem.W PyProof.Rows PySem.Spec PySem.Calls
namespace Mine
noncomputable def nm_law_closed:List Str:=["text","at"]
@[reducible] noncomputable def sh_law_closed (d:Nat):Sh:=⟨scopeOf (stm 25),nm_law_closed,d⟩
theorem nd_law_closed:nm_law_closed.Nodup:=by decide
noncomputable def den_law_closed (Φ:Oracle):Store→Option Out :=
  sCons (sTry (sCons (sRet (dTup (aCons (dCall Φ "brackets" (aCons (getV 0) (aCons (getV 1) aNil))) (aCons (dK .none) aNil)))) <|
    sNil) qUnit) <|
  sNil
theorem ss_law_closed {C:Cx} (w:W C) {Φ:Oracle} {d:Nat} (hd:3 ≤ d) (hΦ:Good C d Φ):SS C (sh_law_closed d) (bodyOf (stm 25)) (den_law_closed Φ):=by
  have n_text:Slot (sh_law_closed d) 0 "text":=⟨⟨by decide,rfl,rfl,nd_law_closed⟩,rfl,rfl⟩
  have n_at:Slot (sh_law_closed d) 1 "at":=⟨⟨by decide,rfl,rfl,nd_law_closed⟩,rfl,rfl⟩
  refine R.cons ?_ ?_
  · refine R.try_ w.G w.X ?_ rfl rfl (show _ ∉ nm_law_closed by decide) rfl rfl (by decide) R.unitQ
    · refine R.cons ?_ ?_
      · exact R.ret (R.tuple (R.consA (SE.callW w hΦ (by decide) rfl rfl rfl (R.consA n_text.e (R.consA n_at.e R.nilA))) (R.consA R.cnone R.nilA))) n_text.nd
      · exact R.nil
  · exact R.nil
noncomputable def nm_law_read:List Str:=["text","at","is_nested","found","here"]
@[reducible] noncomputable def sh_law_read (d:Nat):Sh:=⟨scopeOf (stm 26),nm_law_read,d⟩
noncomputable def lc_law_read_1:Store→Res Bool:=(dFrz (tAnd (tCmp isnD (getV 4) (dK .none)) (tAnd (tCmp (ordD fun a b=>decide (a ≤ b)) (dOn lenD (getV 3)) (dOn lenD (getV 0))) tAnd0)))
noncomputable def lb_law_read_1 (Φ:Oracle):Store→Option Out :=
  sCons (appV 3 (getV 4)) <|
  sCons (sAsg 4 (dCall Φ "command_at" (aCons (getV 0) (aCons (dIdx (getV 4) (dK (.int 3))) (aCons (getV 2) aNil))))) <|
  sNil
theorem nd_law_read:nm_law_read.Nodup:=by decide
noncomputable def den_law_read (Φ:Oracle):Store→Option Out :=
  sCons (sOwn 3 (nLst aNil)) <|
  sCons (sTry (sCons (sAsg 4 (dCall Φ "command_at" (aCons (getV 0) (aCons (getV 1) (aCons (getV 2) aNil))))) <|
    sCons (sWhile lc_law_read_1 (lb_law_read_1 Φ)) <|
    sNil) (qName 3)) <|
  sCons (sRet (dTup (aCons (getV 3) (aCons (dK .none) aNil)))) <|
  sNil
theorem ss_law_read {C:Cx} (w:W C) {Φ:Oracle} {d:Nat} (hd:3 ≤ d) (hΦ:Good C d Φ):SS C (sh_law_read d) (bodyOf (stm 26)) (den_law_read Φ):=by
  have n_text:Slot (sh_law_read d) 0 "text":=⟨⟨by decide,rfl,rfl,nd_law_read⟩,rfl,rfl⟩
  have n_at:Slot (sh_law_read d) 1 "at":=⟨⟨by decide,rfl,rfl,nd_law_read⟩,rfl,rfl⟩
  have n_is_nested:Slot (sh_law_read d) 2 "is_nested":=⟨⟨by decide,rfl,rfl,nd_law_read⟩,rfl,rfl⟩
  have n_found:Slot (sh_law_read d) 3 "found":=⟨⟨by decide,rfl,rfl,nd_law_read⟩,rfl,rfl⟩
  have n_here:Slot (sh_law_read d) 4 "here":=⟨⟨by decide,rfl,rfl,nd_law_read⟩,rfl,rfl⟩
  refine R.cons ?_ ?_
  · exact R.own (R.listN R.nilA) n_found.s
  · refine R.cons ?_ ?_
    · refine R.try_ w.G w.X ?_ rfl rfl (show _ ∉ nm_law_read by decide) rfl rfl (by decide) (R.nameQ n_found.s.at_ n_found.s.loc n_found.nd n_found.d)
      · refine R.cons ?_ ?_
        · exact R.assign (SE.callW w hΦ (by decide) rfl rfl rfl (R.consA n_text.e (R.consA n_at.e (R.consA n_is_nested.e R.nilA)))) n_here.s
        · refine R.cons ?_ ?_
          · refine R.while_ (R.frzT (R.and (R.cmpT CmpOk.isnot n_here.e R.cnone) (R.and (R.cmpT CmpOk.le (R.blt1 w.G Blt1.len (w.no _ (by decide)) boot_len (by decide) rfl rfl rfl n_found.e) (R.blt1 w.G Blt1.len (w.no _ (by decide)) boot_len (by decide) rfl rfl rfl n_text.e)) R.and_nil)) n_text.nd) ?_
            · refine R.cons ?_ ?_
              · exact SX.append n_here.e n_found.s n_found.d
              · refine R.cons ?_ ?_
                · exact R.assign (SE.callW w hΦ (by decide) rfl rfl rfl (R.consA n_text.e (R.consA (R.index n_here.e R.cint) (R.consA n_is_nested.e R.nilA)))) n_here.s
                · exact R.nil
          · exact R.nil
    · refine R.cons ?_ ?_
      · exact R.ret (R.tuple (R.consA n_found.e (R.consA R.cnone R.nilA))) n_text.nd
      · exact R.nil
noncomputable def nm_law_none_earlier:List Str:=["text","size","is_wrong","place","got","fault"]
@[reducible] noncomputable def sh_law_none_earlier (d:Nat):Sh:=⟨scopeOf (stm 27),nm_law_none_earlier,d⟩
noncomputable def lb_law_none_earlier_1 (Φ:Oracle):Store→Option Out :=
  sCons (sIte (tCmp eqD (dIdx (getV 0) (getV 3)) (dK (.str "]")))
    (sCons (sUnp [4,5] (dCall Φ "_law_closed" (aCons (dBin addD (dK (.str "[")) (dCut (getV 0) pNo (pOf (dBin addD (getV 3) (dK (.int 1)))))) (aCons (dK (.int 0)) aNil)))) <|
    sCons (sIte (tOr (tCmp isD (getV 5) (dK .none)) (tOr (tAnd (tCmp neD (dCut (dIdx (getV 5) (dK (.int 1))) pNo (pOf (dK (.int 7)))) (dK (.str "missing"))) (tAnd (tNot (tPlain (getV 2))) tAnd0)) tOr0))
      (sCons (sRet (dK (.bool false))) <|
      sNil)
      (sNil)) <|
    sNil)
    (sNil)) <|
  sNil
theorem nd_law_none_earlier:nm_law_none_earlier.Nodup:=by decide
noncomputable def den_law_none_earlier (Φ:Oracle):Store→Option Out :=
  sCons (sFor 3 (getV 1) (lb_law_none_earlier_1 Φ)) <|
  sCons (sRet (dK (.bool true))) <|
  sNil
theorem ss_law_none_earlier {C:Cx} (w:W C) {Φ:Oracle} {d:Nat} (hd:3 ≤ d) (hΦ:Good C d Φ):SS C (sh_law_none_earlier d) (bodyOf (stm 27)) (den_law_none_earlier Φ):=by
  have n_text:Slot (sh_law_none_earlier d) 0 "text":=⟨⟨by decide,rfl,rfl,nd_law_none_earlier⟩,rfl,rfl⟩
  have n_size:Slot (sh_law_none_earlier d) 1 "size":=⟨⟨by decide,rfl,rfl,nd_law_none_earlier⟩,rfl,rfl⟩
  have n_is_wrong:Slot (sh_law_none_earlier d) 2 "is_wrong":=⟨⟨by decide,rfl,rfl,nd_law_none_earlier⟩,rfl,rfl⟩
  have n_place:Slot (sh_law_none_earlier d) 3 "place":=⟨⟨by decide,rfl,rfl,nd_law_none_earlier⟩,rfl,rfl⟩
  have n_got:Slot (sh_law_none_earlier d) 4 "got":=⟨⟨by decide,rfl,rfl,nd_law_none_earlier⟩,rfl,rfl⟩
  have n_fault:Slot (sh_law_none_earlier d) 5 "fault":=⟨⟨by decide,rfl,rfl,nd_law_none_earlier⟩,rfl,rfl⟩
  refine R.cons ?_ ?_
  · refine R.forRange w.G (w.no _ (by decide)) rfl rfl n_size.e n_place.s ?_
    · refine R.cons ?_ ?_
      · refine R.ite (R.cmpT CmpOk.eq (R.index n_text.e n_place.e) R.cstr) ?_ ?_
        · refine R.cons ?_ ?_
          · exact R.unpack (SE.callW w hΦ (by decide) rfl rfl rfl (R.consA (R.bin BinOk.add R.cstr (R.cut n_text.e R.noP (R.ofP (R.bin BinOk.add n_place.e R.cint)))) (R.consA R.cint R.nilA))) (.cons n_got.s (.cons n_fault.s TNames.nil))
          · refine R.cons ?_ ?_
            · refine R.ite (R.or (R.cmpT CmpOk.is n_fault.e R.cnone) (R.or (R.and (R.cmpT CmpOk.ne (R.cut (R.index n_fault.e R.cint) R.noP (R.ofP R.cint)) R.cstr) (R.and (R.not (R.plain n_is_wrong.e)) R.and_nil)) R.or_nil)) ?_ ?_
              · refine R.cons ?_ ?_
                · exact R.ret R.cbool n_text.nd
                · exact R.nil
              · exact R.nil
            · exact R.nil
        · exact R.nil
      · exact R.nil
  · refine R.cons ?_ ?_
    · exact R.ret R.cbool n_text.nd
    · exact R.nil
noncomputable def nm_law_alone:List Str:=["found","inner","due","words","begin","end","after"]
@[reducible] noncomputable def sh_law_alone (d:Nat):Sh:=⟨scopeOf (stm 28),nm_law_alone,d⟩
theorem nd_law_alone:nm_law_alone.Nodup:=by decide
noncomputable def den_law_alone (_:Oracle):Store→Option Out :=
  sCons (sOwn 2 (nComp backD (getV 0))) <|
  sCons (sIte (dFrz (tCmp neD (getV 2) (dLst aNil)))
    (sCons (sUnp [3,4,5,6] (dFrz (dIdx (getV 2) (dOn negD (dK (.int 1)))))) <|
    sCons (sIte (tAnd (tCmp eqD (dIdx (getV 3) (dOn negD (dK (.int 1)))) (dTup (aCons (dK (.bool true)) (aCons (dTup aNil) aNil)))) (tAnd (tCmp eqD (getV 5) (dOn lenD (getV 1))) (tAnd (tCmp eqD (dCut (getV 1) (pOf (dOn negD (dK (.int 3)))) pNo) (dK (.str "{*}"))) tAnd0)))
      (sCons (setLastV 2 (dTup (aCons (dBin addT (dOn lastCut (getV 3)) (dTup (aCons (dTup (aCons (dK (.bool false)) (aCons (dTup (aCons (dTup (aCons (dK (.str "text")) (aCons (dK (.str "*")) aNil))) aNil)) aNil))) aNil))) (aCons (getV 4) (aCons (getV 5) (aCons (getV 6) aNil)))))) <|
      sNil)
      (sNil)) <|
    sNil)
    (sNil)) <|
  sCons (sRet (getV 2)) <|
  sNil
theorem ss_law_alone {C:Cx} (w:W C) {Φ:Oracle} {d:Nat} (hd:3 ≤ d) (hΦ:Good C d Φ):SS C (sh_law_alone d) (bodyOf (stm 28)) (den_law_alone Φ):=by
  have n_found:Slot (sh_law_alone d) 0 "found":=⟨⟨by decide,rfl,rfl,nd_law_alone⟩,rfl,rfl⟩
  have n_inner:Slot (sh_law_alone d) 1 "inner":=⟨⟨by decide,rfl,rfl,nd_law_alone⟩,rfl,rfl⟩
  have n_due:Slot (sh_law_alone d) 2 "due":=⟨⟨by decide,rfl,rfl,nd_law_alone⟩,rfl,rfl⟩
  have n_words:Slot (sh_law_alone d) 3 "words":=⟨⟨by decide,rfl,rfl,nd_law_alone⟩,rfl,rfl⟩
  have n_begin:Slot (sh_law_alone d) 4 "begin":=⟨⟨by decide,rfl,rfl,nd_law_alone⟩,rfl,rfl⟩
  have n_end:Slot (sh_law_alone d) 5 "end":=⟨⟨by decide,rfl,rfl,nd_law_alone⟩,rfl,rfl⟩
  have n_after:Slot (sh_law_alone d) 6 "after":=⟨⟨by decide,rfl,rfl,nd_law_alone⟩,rfl,rfl⟩
  refine R.cons ?_ ?_
  · exact R.ownComp n_due.s n_found.e (CB.back rfl rfl rfl rfl rfl (by decide) (by decide) (by decide) (by decide) (by decide) (by decide) rfl rfl rfl rfl) CG.back (by decide) (by decide) rfl (by decide) (by intro X hX;obtain ⟨a1,a2,a3,a4,a5,a6,a7,a8,a9,a10⟩:=X;have h:=hX.sc;dsimp only at h;subst h;rfl)
  · refine R.cons ?_ ?_
    · refine R.ite (R.frzT (R.cmpT CmpOk.ne n_due.e (R.list R.nilA)) n_found.nd) ?_ ?_
      · refine R.cons ?_ ?_
        · exact R.unpack (R.frzE (R.index n_due.e (R.neg R.cint)) n_found.nd) (.cons n_words.s (.cons n_begin.s (.cons n_end.s (.cons n_after.s TNames.nil))))
        · refine R.cons ?_ ?_
          · refine R.ite (R.and (R.cmpT CmpOk.eq (R.index n_words.e (R.neg R.cint)) (R.tuple (R.consA R.cbool (R.consA (R.tuple R.nilA) R.nilA)))) (R.and (R.cmpT CmpOk.eq n_end.e (R.blt1 w.G Blt1.len (w.no _ (by decide)) boot_len (by decide) rfl rfl rfl n_inner.e)) (R.and (R.cmpT CmpOk.eq (R.cut n_inner.e (R.ofP (R.neg R.cint)) R.noP) R.cstr) R.and_nil))) ?_ ?_
            · refine R.cons ?_ ?_
              · exact SX.setLast (R.tuple (R.consA (R.addT (R.cutLast n_words.e) (R.tuple (R.consA (R.tuple (R.consA R.cbool (R.consA (R.tuple (R.consA (R.tuple (R.consA R.cstr (R.consA R.cstr R.nilA))) R.nilA)) R.nilA))) R.nilA))) (R.consA n_begin.e (R.consA n_end.e (R.consA n_after.e R.nilA))))) n_due.s n_due.d
              · exact R.nil
            · exact R.nil
          · exact R.nil
      · exact R.nil
    · refine R.cons ?_ ?_
      · exact R.ret n_due.e n_found.nd
      · exact R.nil
noncomputable def nm_law_script_right:List Str:=["inner","ahead","later","whole","first","found","fault","row","part","words"]
@[reducible] noncomputable def sh_law_script_right (d:Nat):Sh:=⟨scopeOf (stm 29),nm_law_script_right,d⟩
theorem nd_law_script_right:nm_law_script_right.Nodup:=by decide
noncomputable def den_law_script_right (Φ:Oracle):Store→Option Out :=
  sCons (sSwp [("whole",3),("first",4)] (dTup (aCons (dBin addD (dBin addD (dK (.str "[")) (getV 0)) (dK (.str "]"))) (aCons (dOn lenD (getV 1)) aNil)))) <|
  sCons (sIte (tCmp neD (dCall Φ "_law_closed" (aCons (dBin addD (dBin addD (getV 1) (getV 3)) (getV 2)) (aCons (getV 4) aNil))) (dTup (aCons (dTup (aCons (getV 0) (aCons (dBin addD (getV 4) (dOn lenD (getV 3))) aNil))) (aCons (dK .none) aNil))))
    (sCons (sRet (dK (.bool false))) <|
    sNil)
    (sNil)) <|
  sCons (sUnp [5,6] (dCall Φ "_law_read" (aCons (getV 3) (aCons (dK (.int 1)) (aCons (dK (.bool true)) aNil))))) <|
  sCons (sIte (tOr (tCmp isnD (getV 6) (dK .none)) (tOr (tCmp neD (dCall Φ "_law_read" (aCons (getV 0) (aCons (dK (.int 0)) (aCons (dK (.bool false)) aNil)))) (dTup (aCons (dCall Φ "_law_alone" (aCons (getV 5) (aCons (getV 0) aNil))) (aCons (dK .none) aNil)))) tOr0))
    (sCons (sRet (dK (.bool false))) <|
    sNil)
    (sNil)) <|
  sCons (sAsg 7 (dBin addD (dBin addD (dBin addD (dBin addD (dBin addD (dBin addD (dK (.str "r x")) (getV 3)) (dK (.str "y \""))) (getV 3)) (dK (.str "\" $a("))) (getV 3)) (dK (.str ")")))) <|
  sCons (sAsg 8 (dTup (aCons (dK (.str "cmd")) (aCons (getV 0) aNil)))) <|
  sCons (sAsg 9 (dLst (aCons (dTup (aCons (dTup (aCons (dK (.str "text")) (aCons (dK (.str "r")) aNil))) aNil)) (aCons (dTup (aCons (dTup (aCons (dK (.str "text")) (aCons (dK (.str "x")) aNil))) (aCons (getV 8) (aCons (dTup (aCons (dK (.str "text")) (aCons (dK (.str "y")) aNil))) aNil)))) (aCons (dTup (aCons (getV 8) aNil)) (aCons (dTup (aCons (dTup (aCons (dK (.str "var")) (aCons (dK (.str "a")) (aCons (dTup (aCons (getV 8) aNil)) aNil)))) aNil)) aNil)))))) <|
  sCons (sRet (dCmp eqD (dCall Φ "command_at" (aCons (getV 7) (aCons (dK (.int 0)) aNil))) (dTup (aCons (dOn tupleF (dNew (nComp falseD (getV 9)))) (aCons (dK (.int 0)) (aCons (dOn lenD (getV 7)) (aCons (dOn lenD (getV 7)) aNil))))))) <|
  sNil
theorem ss_law_script_right {C:Cx} (w:W C) {Φ:Oracle} {d:Nat} (hd:3 ≤ d) (hΦ:Good C d Φ):SS C (sh_law_script_right d) (bodyOf (stm 29)) (den_law_script_right Φ):=by
  have n_inner:Slot (sh_law_script_right d) 0 "inner":=⟨⟨by decide,rfl,rfl,nd_law_script_right⟩,rfl,rfl⟩
  have n_ahead:Slot (sh_law_script_right d) 1 "ahead":=⟨⟨by decide,rfl,rfl,nd_law_script_right⟩,rfl,rfl⟩
  have n_later:Slot (sh_law_script_right d) 2 "later":=⟨⟨by decide,rfl,rfl,nd_law_script_right⟩,rfl,rfl⟩
  have n_whole:Slot (sh_law_script_right d) 3 "whole":=⟨⟨by decide,rfl,rfl,nd_law_script_right⟩,rfl,rfl⟩
  have n_first:Slot (sh_law_script_right d) 4 "first":=⟨⟨by decide,rfl,rfl,nd_law_script_right⟩,rfl,rfl⟩
  have n_found:Slot (sh_law_script_right d) 5 "found":=⟨⟨by decide,rfl,rfl,nd_law_script_right⟩,rfl,rfl⟩
  have n_fault:Slot (sh_law_script_right d) 6 "fault":=⟨⟨by decide,rfl,rfl,nd_law_script_right⟩,rfl,rfl⟩
  have n_row:Slot (sh_law_script_right d) 7 "row":=⟨⟨by decide,rfl,rfl,nd_law_script_right⟩,rfl,rfl⟩
  have n_part:Slot (sh_law_script_right d) 8 "part":=⟨⟨by decide,rfl,rfl,nd_law_script_right⟩,rfl,rfl⟩
  have n_words:Slot (sh_law_script_right d) 9 "words":=⟨⟨by decide,rfl,rfl,nd_law_script_right⟩,rfl,rfl⟩
  refine R.cons ?_ ?_
  · exact R.swap (ns:=[("whole",3),("first",4)]) (R.tuple (R.consA (R.bin BinOk.add (R.bin BinOk.add R.cstr n_inner.e) R.cstr) (R.consA (R.blt1 w.G Blt1.len (w.no _ (by decide)) boot_len (by decide) rfl rfl rfl n_ahead.e) R.nilA))) (slot2 n_whole.s n_first.s) (hw:=by intro X hX;obtain ⟨a1,a2,a3,a4,a5,a6,a7,a8,a9,a10⟩:=X;have h:=hX.sc;dsimp only at h;subst h;rfl)
  · refine R.cons ?_ ?_
    · refine R.ite (R.cmpT CmpOk.ne (SE.callW w hΦ (by decide) rfl rfl rfl (R.consA (R.bin BinOk.add (R.bin BinOk.add n_ahead.e n_whole.e) n_later.e) (R.consA n_first.e R.nilA))) (R.tuple (R.consA (R.tuple (R.consA n_inner.e (R.consA (R.bin BinOk.add n_first.e (R.blt1 w.G Blt1.len (w.no _ (by decide)) boot_len (by decide) rfl rfl rfl n_whole.e)) R.nilA))) (R.consA R.cnone R.nilA)))) ?_ ?_
      · refine R.cons ?_ ?_
        · exact R.ret R.cbool n_inner.nd
        · exact R.nil
      · exact R.nil
    · refine R.cons ?_ ?_
      · exact R.unpack (SE.callW w hΦ (by decide) rfl rfl rfl (R.consA n_whole.e (R.consA R.cint (R.consA R.cbool R.nilA)))) (.cons n_found.s (.cons n_fault.s TNames.nil))
      · refine R.cons ?_ ?_
        · refine R.ite (R.or (R.cmpT CmpOk.isnot n_fault.e R.cnone) (R.or (R.cmpT CmpOk.ne (SE.callW w hΦ (by decide) rfl rfl rfl (R.consA n_inner.e (R.consA R.cint (R.consA R.cbool R.nilA)))) (R.tuple (R.consA (SE.callW w hΦ (by decide) rfl rfl rfl (R.consA n_found.e (R.consA n_inner.e R.nilA))) (R.consA R.cnone R.nilA)))) R.or_nil)) ?_ ?_
          · refine R.cons ?_ ?_
            · exact R.ret R.cbool n_inner.nd
            · exact R.nil
          · exact R.nil
        · refine R.cons ?_ ?_
          · exact R.assign (R.bin BinOk.add (R.bin BinOk.add (R.bin BinOk.add (R.bin BinOk.add (R.bin BinOk.add (R.bin BinOk.add R.cstr n_whole.e) R.cstr) n_whole.e) R.cstr) n_whole.e) R.cstr) n_row.s
          · refine R.cons ?_ ?_
            · exact R.assign (R.tuple (R.consA R.cstr (R.consA n_inner.e R.nilA))) n_part.s
            · refine R.cons ?_ ?_
              · exact R.assign (R.list (R.consA (R.tuple (R.consA (R.tuple (R.consA R.cstr (R.consA R.cstr R.nilA))) R.nilA)) (R.consA (R.tuple (R.consA (R.tuple (R.consA R.cstr (R.consA R.cstr R.nilA))) (R.consA n_part.e (R.consA (R.tuple (R.consA R.cstr (R.consA R.cstr R.nilA))) R.nilA)))) (R.consA (R.tuple (R.consA n_part.e R.nilA)) (R.consA (R.tuple (R.consA (R.tuple (R.consA R.cstr (R.consA R.cstr (R.consA (R.tuple (R.consA n_part.e R.nilA)) R.nilA)))) R.nilA)) R.nilA))))) n_words.s
              · refine R.cons ?_ ?_
                · exact R.ret (R.cmp CmpOk.eq (SE.callW w hΦ (by decide) rfl rfl rfl (R.consA n_row.e (R.consA R.cint R.nilA))) (R.tuple (R.consA (R.tup w.G (w.no _ (by decide)) rfl rfl (R.se (R.comp n_words.e (CB.falses rfl rfl rfl) CG.name (by decide) (by decide) rfl (by decide)))) (R.consA R.cint (R.consA (R.blt1 w.G Blt1.len (w.no _ (by decide)) boot_len (by decide) rfl rfl rfl n_row.e) (R.consA (R.blt1 w.G Blt1.len (w.no _ (by decide)) boot_len (by decide) rfl rfl rfl n_row.e) R.nilA)))))) n_inner.nd
                · exact R.nil
noncomputable def nm_law_closers_right:List Str:=["text","made","got","fault","many"]
@[reducible] noncomputable def sh_law_closers_right (d:Nat):Sh:=⟨scopeOf (stm 30),nm_law_closers_right,d⟩
noncomputable def lc_law_closers_right_1:Store→Res Bool:=(tAnd (tCmp isnD (getV 3) (dK .none)) (tAnd (tCmp eqD (dIdx (getV 3) (dK (.int 1))) (dK (.str "missing close-bracket"))) (tAnd (tCmp (ordD fun a b=>decide (b < a)) (getV 4) (dK (.int 0))) tAnd0)))
noncomputable def lb_law_closers_right_1 (Φ:Oracle):Store→Option Out :=
  sCons (sSwp [("made",1),("many",4)] (dTup (aCons (dBin addD (getV 1) (dK (.str "]"))) (aCons (dBin subD (getV 4) (dK (.int 1))) aNil)))) <|
  sCons (sUnp [2,3] (dCall Φ "_law_closed" (aCons (getV 1) (aCons (dK (.int 0)) aNil)))) <|
  sCons (sIte (tAnd (tCmp isD (getV 3) (dK .none)) (tAnd (tCmp neD (getV 2) (dTup (aCons (dCut (getV 1) (pOf (dK (.int 1))) (pOf (dOn negD (dK (.int 1))))) (aCons (dOn lenD (getV 1)) aNil)))) tAnd0))
    (sCons (sRet (dK (.bool false))) <|
    sNil)
    (sNil)) <|
  sCons (sIte (tAnd (tCmp isnD (getV 3) (dK .none)) (tAnd (tCmp neD (dCut (dIdx (getV 3) (dK (.int 1))) pNo (pOf (dK (.int 7)))) (dK (.str "missing"))) tAnd0))
    (sCons (sRet (dK (.bool false))) <|
    sNil)
    (sNil)) <|
  sNil
theorem nd_law_closers_right:nm_law_closers_right.Nodup:=by decide
noncomputable def den_law_closers_right (Φ:Oracle):Store→Option Out :=
  sCons (sAsg 1 (dBin addD (dBin addD (dK (.str "[")) (getV 0)) (dK (.str "\n\n")))) <|
  sCons (sUnp [2,3] (dCall Φ "_law_closed" (aCons (getV 1) (aCons (dK (.int 0)) aNil)))) <|
  sCons (sAsg 4 (dMeth countD (getV 1) (aCons (dK (.str "[")) aNil))) <|
  sCons (sWhile lc_law_closers_right_1 (lb_law_closers_right_1 Φ)) <|
  sCons (sRet (dOr2 (dCmp isD (getV 3) (dK .none)) (dCmp neD (dIdx (getV 3) (dK (.int 1))) (dK (.str "missing close-bracket"))))) <|
  sNil
theorem ss_law_closers_right {C:Cx} (w:W C) {Φ:Oracle} {d:Nat} (hd:3 ≤ d) (hΦ:Good C d Φ):SS C (sh_law_closers_right d) (bodyOf (stm 30)) (den_law_closers_right Φ):=by
  have n_text:Slot (sh_law_closers_right d) 0 "text":=⟨⟨by decide,rfl,rfl,nd_law_closers_right⟩,rfl,rfl⟩
  have n_made:Slot (sh_law_closers_right d) 1 "made":=⟨⟨by decide,rfl,rfl,nd_law_closers_right⟩,rfl,rfl⟩
  have n_got:Slot (sh_law_closers_right d) 2 "got":=⟨⟨by decide,rfl,rfl,nd_law_closers_right⟩,rfl,rfl⟩
  have n_fault:Slot (sh_law_closers_right d) 3 "fault":=⟨⟨by decide,rfl,rfl,nd_law_closers_right⟩,rfl,rfl⟩
  have n_many:Slot (sh_law_closers_right d) 4 "many":=⟨⟨by decide,rfl,rfl,nd_law_closers_right⟩,rfl,rfl⟩
  refine R.cons ?_ ?_
  · exact R.assign (R.bin BinOk.add (R.bin BinOk.add R.cstr n_text.e) R.cstr) n_made.s
  · refine R.cons ?_ ?_
    · exact R.unpack (SE.callW w hΦ (by decide) rfl rfl rfl (R.consA n_made.e (R.consA R.cint R.nilA))) (.cons n_got.s (.cons n_fault.s TNames.nil))
    · refine R.cons ?_ ?_
      · exact R.assign (R.meth Mth.count n_made.e (R.consA R.cstr R.nilA)) n_many.s
      · refine R.cons ?_ ?_
        · refine R.while_ (R.and (R.cmpT CmpOk.isnot n_fault.e R.cnone) (R.and (R.cmpT CmpOk.eq (R.index n_fault.e R.cint) R.cstr) (R.and (R.cmpT CmpOk.gt n_many.e R.cint) R.and_nil))) ?_
          · refine R.cons ?_ ?_
            · exact R.swap (ns:=[("made",1),("many",4)]) (R.tuple (R.consA (R.bin BinOk.add n_made.e R.cstr) (R.consA (R.bin BinOk.sub n_many.e R.cint) R.nilA))) (slot2 n_made.s n_many.s) (hw:=by intro X hX;obtain ⟨a1,a2,a3,a4,a5,a6,a7,a8,a9,a10⟩:=X;have h:=hX.sc;dsimp only at h;subst h;rfl)
            · refine R.cons ?_ ?_
              · exact R.unpack (SE.callW w hΦ (by decide) rfl rfl rfl (R.consA n_made.e (R.consA R.cint R.nilA))) (.cons n_got.s (.cons n_fault.s TNames.nil))
              · refine R.cons ?_ ?_
                · refine R.ite (R.and (R.cmpT CmpOk.is n_fault.e R.cnone) (R.and (R.cmpT CmpOk.ne n_got.e (R.tuple (R.consA (R.cut n_made.e (R.ofP R.cint) (R.ofP (R.neg R.cint))) (R.consA (R.blt1 w.G Blt1.len (w.no _ (by decide)) boot_len (by decide) rfl rfl rfl n_made.e) R.nilA)))) R.and_nil)) ?_ ?_
                  · refine R.cons ?_ ?_
                    · exact R.ret R.cbool n_text.nd
                    · exact R.nil
                  · exact R.nil
                · refine R.cons ?_ ?_
                  · refine R.ite (R.and (R.cmpT CmpOk.isnot n_fault.e R.cnone) (R.and (R.cmpT CmpOk.ne (R.cut (R.index n_fault.e R.cint) R.noP (R.ofP R.cint)) R.cstr) R.and_nil)) ?_ ?_
                    · refine R.cons ?_ ?_
                      · exact R.ret R.cbool n_text.nd
                      · exact R.nil
                    · exact R.nil
                  · exact R.nil
        · refine R.cons ?_ ?_
          · exact R.ret (R.or2 (R.cmp CmpOk.is n_fault.e R.cnone) (R.cmp CmpOk.ne (R.index n_fault.e R.cint) R.cstr)) n_text.nd
          · exact R.nil
noncomputable def nm_law_text_right:List Str:=["text","ahead","later","got","fault","inner","behind","within","is_wrong"]
@[reducible] noncomputable def sh_law_text_right (d:Nat):Sh:=⟨scopeOf (stm 31),nm_law_text_right,d⟩
theorem nd_law_text_right:nm_law_text_right.Nodup:=by decide
noncomputable def den_law_text_right (Φ:Oracle):Store→Option Out :=
  sCons (sUnp [3,4] (dCall Φ "_law_closed" (aCons (dBin addD (dK (.str "[")) (getV 0)) (aCons (dK (.int 0)) aNil)))) <|
  sCons (sIte (tCmp isD (getV 4) (dK .none))
    (sCons (sUnp [5,6] (getV 3)) <|
    sCons (sIte (tOr (tCmp neD (dCut (getV 0) pNo (pOf (dBin addD (dOn lenD (getV 5)) (dK (.int 1))))) (dBin addD (getV 5) (dK (.str "]")))) (tOr (tCmp neD (getV 6) (dBin addD (dOn lenD (getV 5)) (dK (.int 2)))) tOr0))
      (sCons (sRet (dK (.bool false))) <|
      sNil)
      (sNil)) <|
    sCons (sRet (dAnd2 (dCall Φ "_law_none_earlier" (aCons (getV 0) (aCons (dOn lenD (getV 5)) (aCons (dK (.bool false)) aNil)))) (dCall Φ "_law_script_right" (aCons (getV 5) (aCons (getV 1) (aCons (getV 2) aNil)))))) <|
    sNil)
    (sNil)) <|
  sCons (sAsg 7 (dIdx (dCall Φ "_law_read" (aCons (dBin addD (dK (.str "[")) (getV 0)) (aCons (dK (.int 1)) (aCons (dK (.bool true)) aNil)))) (dK (.int 1)))) <|
  sCons (sIte (tCmp neD (getV 4) (dIf (tCmp isnD (getV 7) (dK .none)) (getV 7) (dTup (aCons (dK (.int 1)) (aCons (dK (.str "missing close-bracket")) (aCons (dTup (aCons (dK (.str "NONE")) aNil)) aNil))))))
    (sCons (sRet (dK (.bool false))) <|
    sNil)
    (sNil)) <|
  sCons (sAsg 8 (dCmp neD (dCut (dIdx (getV 4) (dK (.int 1))) pNo (pOf (dK (.int 7)))) (dK (.str "missing")))) <|
  sCons (sIte (tAnd (tPlain (getV 8)) (tAnd (tCmp neD (dCall Φ "_law_closed" (aCons (dBin addD (dBin addD (dBin addD (dK (.str "[")) (getV 0)) (dK (.str ";"))) (getV 2)) (aCons (dK (.int 0)) aNil))) (dTup (aCons (dTup aNil) (aCons (getV 4) aNil)))) tAnd0))
    (sCons (sRet (dK (.bool false))) <|
    sNil)
    (sNil)) <|
  sCons (sRet (dAnd2 (dCall Φ "_law_none_earlier" (aCons (getV 0) (aCons (dOn lenD (getV 0)) (aCons (getV 8) aNil)))) (dCall Φ "_law_closers_right" (aCons (getV 0) aNil)))) <|
  sNil
theorem ss_law_text_right {C:Cx} (w:W C) {Φ:Oracle} {d:Nat} (hd:3 ≤ d) (hΦ:Good C d Φ):SS C (sh_law_text_right d) (bodyOf (stm 31)) (den_law_text_right Φ):=by
  have n_text:Slot (sh_law_text_right d) 0 "text":=⟨⟨by decide,rfl,rfl,nd_law_text_right⟩,rfl,rfl⟩
  have n_ahead:Slot (sh_law_text_right d) 1 "ahead":=⟨⟨by decide,rfl,rfl,nd_law_text_right⟩,rfl,rfl⟩
  have n_later:Slot (sh_law_text_right d) 2 "later":=⟨⟨by decide,rfl,rfl,nd_law_text_right⟩,rfl,rfl⟩
  have n_got:Slot (sh_law_text_right d) 3 "got":=⟨⟨by decide,rfl,rfl,nd_law_text_right⟩,rfl,rfl⟩
  have n_fault:Slot (sh_law_text_right d) 4 "fault":=⟨⟨by decide,rfl,rfl,nd_law_text_right⟩,rfl,rfl⟩
  have n_inner:Slot (sh_law_text_right d) 5 "inner":=⟨⟨by decide,rfl,rfl,nd_law_text_right⟩,rfl,rfl⟩
  have n_behind:Slot (sh_law_text_right d) 6 "behind":=⟨⟨by decide,rfl,rfl,nd_law_text_right⟩,rfl,rfl⟩
  have n_within:Slot (sh_law_text_right d) 7 "within":=⟨⟨by decide,rfl,rfl,nd_law_text_right⟩,rfl,rfl⟩
  have n_is_wrong:Slot (sh_law_text_right d) 8 "is_wrong":=⟨⟨by decide,rfl,rfl,nd_law_text_right⟩,rfl,rfl⟩
  refine R.cons ?_ ?_
  · exact R.unpack (SE.callW w hΦ (by decide) rfl rfl rfl (R.consA (R.bin BinOk.add R.cstr n_text.e) (R.consA R.cint R.nilA))) (.cons n_got.s (.cons n_fault.s TNames.nil))
  · refine R.cons ?_ ?_
    · refine R.ite (R.cmpT CmpOk.is n_fault.e R.cnone) ?_ ?_
      · refine R.cons ?_ ?_
        · exact R.unpack n_got.e (.cons n_inner.s (.cons n_behind.s TNames.nil))
        · refine R.cons ?_ ?_
          · refine R.ite (R.or (R.cmpT CmpOk.ne (R.cut n_text.e R.noP (R.ofP (R.bin BinOk.add (R.blt1 w.G Blt1.len (w.no _ (by decide)) boot_len (by decide) rfl rfl rfl n_inner.e) R.cint))) (R.bin BinOk.add n_inner.e R.cstr)) (R.or (R.cmpT CmpOk.ne n_behind.e (R.bin BinOk.add (R.blt1 w.G Blt1.len (w.no _ (by decide)) boot_len (by decide) rfl rfl rfl n_inner.e) R.cint)) R.or_nil)) ?_ ?_
            · refine R.cons ?_ ?_
              · exact R.ret R.cbool n_text.nd
              · exact R.nil
            · exact R.nil
          · refine R.cons ?_ ?_
            · exact R.ret (R.and2 (SE.callW w hΦ (by decide) rfl rfl rfl (R.consA n_text.e (R.consA (R.blt1 w.G Blt1.len (w.no _ (by decide)) boot_len (by decide) rfl rfl rfl n_inner.e) (R.consA R.cbool R.nilA)))) (SE.callW w hΦ (by decide) rfl rfl rfl (R.consA n_inner.e (R.consA n_ahead.e (R.consA n_later.e R.nilA))))) n_text.nd
            · exact R.nil
      · exact R.nil
    · refine R.cons ?_ ?_
      · exact R.assign (R.index (SE.callW w hΦ (by decide) rfl rfl rfl (R.consA (R.bin BinOk.add R.cstr n_text.e) (R.consA R.cint (R.consA R.cbool R.nilA)))) R.cint) n_within.s
      · refine R.cons ?_ ?_
        · refine R.ite (R.cmpT CmpOk.ne n_fault.e (R.ife (R.cmpT CmpOk.isnot n_within.e R.cnone) n_within.e (R.tuple (R.consA R.cint (R.consA R.cstr (R.consA (R.tuple (R.consA R.cstr R.nilA)) R.nilA)))))) ?_ ?_
          · refine R.cons ?_ ?_
            · exact R.ret R.cbool n_text.nd
            · exact R.nil
          · exact R.nil
        · refine R.cons ?_ ?_
          · exact R.assign (R.cmp CmpOk.ne (R.cut (R.index n_fault.e R.cint) R.noP (R.ofP R.cint)) R.cstr) n_is_wrong.s
          · refine R.cons ?_ ?_
            · refine R.ite (R.and (R.plain n_is_wrong.e) (R.and (R.cmpT CmpOk.ne (SE.callW w hΦ (by decide) rfl rfl rfl (R.consA (R.bin BinOk.add (R.bin BinOk.add (R.bin BinOk.add R.cstr n_text.e) R.cstr) n_later.e) (R.consA R.cint R.nilA))) (R.tuple (R.consA (R.tuple R.nilA) (R.consA n_fault.e R.nilA)))) R.and_nil)) ?_ ?_
              · refine R.cons ?_ ?_
                · exact R.ret R.cbool n_text.nd
                · exact R.nil
              · exact R.nil
            · refine R.cons ?_ ?_
              · exact R.ret (R.and2 (SE.callW w hΦ (by decide) rfl rfl rfl (R.consA n_text.e (R.consA (R.blt1 w.G Blt1.len (w.no _ (by decide)) boot_len (by decide) rfl rfl rfl n_text.e) (R.consA n_is_wrong.e R.nilA)))) (SE.callW w hΦ (by decide) rfl rfl rfl (R.consA n_text.e R.nilA))) n_text.nd
              · exact R.nil
end Mine
end
section
open PySem PySem.W PyProof.Rows PySem.Spec PySem.Calls
namespace Mine
structure FD where
  n:Str
  np:Nat
  nn:Nat
  den:Oracle→Store→Option Out
noncomputable def fdTable:List FD:=[
  ⟨"digit",1,2,den_digit⟩,
  ⟨"hex_sign",2,6,den_hex_sign⟩,
  ⟨"octal_sign",2,5,den_octal_sign⟩,
  ⟨"backslash",2,5,den_backslash⟩,
  ⟨"is_gap",1,1,den_is_gap⟩,
  ⟨"skip_gaps",2,2,den_skip_gaps⟩,
  ⟨"comment_behind",2,3,den_comment_behind⟩,
  ⟨"skip_to_command",2,2,den_skip_to_command⟩,
  ⟨"read_name",2,2,den_read_name⟩,
  ⟨"variable",2,6,den_variable⟩,
  ⟨"brackets",2,5,den_brackets⟩,
  ⟨"braces",2,9,den_braces⟩,
  ⟨"parts_until",3,10,den_parts_until⟩,
  ⟨"bare_stops",1,1,den_bare_stops⟩,
  ⟨"is_expanded",2,3,den_is_expanded⟩,
  ⟨"word",3,9,den_word⟩,
  ⟨"command_at",3,9,den_command_at⟩,
  ⟨"_law_closed",2,2,den_law_closed⟩,
  ⟨"_law_read",3,5,den_law_read⟩,
  ⟨"_law_none_earlier",3,6,den_law_none_earlier⟩,
  ⟨"_law_alone",2,7,den_law_alone⟩,
  ⟨"_law_script_right",3,10,den_law_script_right⟩,
  ⟨"_law_closers_right",1,5,den_law_closers_right⟩,
  ⟨"_law_text_right",3,9,den_law_text_right⟩]
noncomputable def fullArgs (n:Str) (args:List PyData):List PyData:=if n = "command_at"∧args.length = 2 then args ++ [.bool false] else args
noncomputable def Φ:Nat→Oracle
  | 0=>fun _ _=>none
  | d + 1=>fun n args=>if d < 3 then none else match fdTable.find? (·.n == n) with
    | none=>none
    | some t=>if (fullArgs n args).length = t.np then (t.den (Φ d) (store0 (fullArgs n args) t.nn)).map outR else none
theorem all_cons {α:Type} {P:α→Prop} {a:α} {l:List α} (h:P a) (t:∀ x ∈ l,P x):∀ x ∈ a :: l,P x:=fun x hx=>by
  cases hx with
  | head=>exact h
  | tail _ q=>exact t x q
theorem all_nil {α:Type} {P:α→Prop}:∀ x ∈ ([]:List α),P x:=fun _ h=>nomatch h
theorem len1 {P:List Value→Prop} (h:∀ a,P [a]) (vs:List Value) (e:vs.length = 1):P vs:=by
  obtain ⟨a,rfl⟩:=List.length_eq_one_iff.mp e;exact h a
theorem len2 {P:List Value→Prop} (h:∀ a b,P [a,b]) (vs:List Value) (e:vs.length = 2):P vs:=by
  obtain ⟨a,t,rfl⟩:=List.exists_cons_of_length_eq_add_one e;exact len1 (P:=fun t=>P (a :: t)) (h a) t (Nat.succ.inj e)
theorem len3 {P:List Value→Prop} (h:∀ a b c,P [a,b,c]) (vs:List Value) (e:vs.length = 3):P vs:=by
  obtain ⟨a,t,rfl⟩:=List.exists_cons_of_length_eq_add_one e;exact len2 (P:=fun t=>P (a :: t)) (h a) t (Nat.succ.inj e)
noncomputable def okB (n:Str) (i np:Nat) (names:List Str):Bool:=decide ((n,i) ∈ fnPlaces∧n ≠ "command_at"∧(∀ x ∈ (scopeOf (stm i)).names,x.2 ≠ .cell)∧(∀ x ∈ names,(scopeOf (stm i)).names.lookup x = some .local)∧names.Nodup∧np ≤ names.length∧("code":Str) ∉ names)
noncomputable def PPk (C:Cx) (Φ:Oracle) (d:Nat) (t:FD):Prop:=∀ ds o,(fullArgs t.n ds).length = t.np→t.den Φ (store0 (fullArgs t.n ds) t.nn) = some o→CallOk C (d + 1) t.n ds (outR o)
theorem ok_gen {C:Cx} (w:W C) {Φ:Oracle} {d:Nat} {n:Str} {i np nn:Nat} {names:List Str} {den:Oracle→Store→Option Out} (hs:SS C ⟨scopeOf (stm i),names,d⟩ (bodyOf (stm i)) (den Φ)) (hB:okB n i np names = true) (hn:names.length = nn)
    (hk:(scopeOf (stm i)).kind = .function) (hco:(scopeOf (stm i)).isCoroutine = false) (hgen:(scopeOf (stm i)).isGenerator = false)
    (hb:∀ (s:Shared) kV doc pm an ct cdv (vs:List Value),vs.length = np→BindsTo s (fnOf n n (paramsOf (stm i)) (bodyOf (stm i)) (scopeOf (stm i)) .none kV doc pm an cdv ct) ⟨vs,[]⟩ (names.zip vs)):PPk C Φ d ⟨n,np,nn,den⟩:=fun ds o hl h=>by
  subst hn
  obtain ⟨b1,b2,b3,b4,b5,b6,b7⟩:=of_decide_eq_true hB
  have e:fullArgs n ds = ds:=if_neg fun q=>b2 q.1
  have hl:(fullArgs n ds).length = np:=hl
  have h:den Φ (store0 (fullArgs n ds) names.length) = some o:=h
  rw [e] at hl h
  obtain ⟨f0,dV,cdv,hf,hq,_⟩:=w.fns (n,i) b1
  obtain rfl:=hq b2
  exact CallOk.of w.G hf (names:=names) hs (fun s kV doc pm an ct vs _ r=>⟨vs,r,hb s kV doc pm an ct cdv vs (r.length.trans hl)⟩) h hk hco hgen b3 b4 b5 (by rw [hl];exact b6) b7
theorem ok_command_at {C:Cx} (w:W C) {Φ:Oracle} {d:Nat} (hd:3 ≤ d) (hΦ:Good C d Φ) {ds ds':List PyData} {o:Out} (hl:ds'.length = 3) (hv:ds.length = 3∧ds' = ds ∨ ds.length = 2∧ds' = ds ++ [.bool false]) (h:den_command_at Φ (store0 ds' 9) = some o):CallOk C (d + 1) "command_at" ds (outR o):=by
  obtain ⟨f0,dV,cdv,hf,_,hq⟩:=w.fns ("command_at",21) (by decide)
  obtain ⟨T,oT,n,rfl,hT,hTd⟩:=hq rfl
  refine CallOk.of w.G hf (names:=nm_command_at) (ds':=ds') (ss_command_at w hd hΦ) (fun s kV doc pm an ct vs hst r=>?_) h rfl rfl rfl (by decide) (by decide) nd_command_at (by rw [hl];decide) (by decide)
  rcases hv with ⟨h3,rfl⟩ | ⟨h2,rfl⟩
  · exact ⟨vs,r,len3 (P:=fun vs=>BindsTo s _ ⟨vs,[]⟩ (nm_command_at.zip vs)) (fun _ _ _=>BindsTo.of_defaults rfl (hst _ _ hT) hTd rfl rfl) vs (r.length.trans h3)⟩
  · exact ⟨vs ++ [.bool false],r.append (.cons (.bool false) .nil),len2 (P:=fun vs=>BindsTo s _ ⟨vs,[]⟩ (nm_command_at.zip (vs ++ [.bool false]))) (fun _ _=>BindsTo.of_defaults rfl (hst _ _ hT) hTd rfl rfl) vs (r.length.trans h2)⟩
theorem ok_cmd {C:Cx} (w:W C) {Φ:Oracle} {d:Nat} (hd:3 ≤ d) (hΦ:Good C d Φ):PPk C Φ d ⟨"command_at",3,9,den_command_at⟩:=fun ds o hl h=>by
  by_cases h2:ds.length = 2
  · have e:fullArgs "command_at" ds = ds ++ [.bool false]:=if_pos ⟨rfl,h2⟩
    have h:den_command_at Φ (store0 (fullArgs "command_at" ds) 9) = some o:=h
    rw [e] at h
    exact ok_command_at w hd hΦ (by rw [List.length_append,h2];rfl) (.inr ⟨h2,rfl⟩) h
  · have e:fullArgs "command_at" ds = ds:=if_neg fun q=>h2 q.2
    have hl:(fullArgs "command_at" ds).length = 3:=hl
    have h:den_command_at Φ (store0 (fullArgs "command_at" ds) 9) = some o:=h
    rw [e] at hl h
    exact ok_command_at w hd hΦ hl (.inl ⟨hl,rfl⟩) h
theorem okt {C:Cx} (w:W C) {Φ:Oracle} {d:Nat} (hd:3 ≤ d) (hΦ:Good C d Φ):∀ t ∈ fdTable,PPk C Φ d t:=by
  unfold fdTable
  refine all_cons (ok_gen (i:=4) w (ss_digit w hd hΦ) (by kernel_rfl) rfl rfl rfl rfl fun _ _ _ _ _ _ _=>len1 fun _=>BindsTo.of_eq rfl) ?_
  refine all_cons (ok_gen (i:=6) w (ss_hex_sign w hd hΦ) (by kernel_rfl) rfl rfl rfl rfl fun _ _ _ _ _ _ _=>len2 fun _ _=>BindsTo.of_eq rfl) ?_
  refine all_cons (ok_gen (i:=7) w (ss_octal_sign w hd hΦ) (by kernel_rfl) rfl rfl rfl rfl fun _ _ _ _ _ _ _=>len2 fun _ _=>BindsTo.of_eq rfl) ?_
  refine all_cons (ok_gen (i:=8) w (ss_backslash w hd hΦ) (by kernel_rfl) rfl rfl rfl rfl fun _ _ _ _ _ _ _=>len2 fun _ _=>BindsTo.of_eq rfl) ?_
  refine all_cons (ok_gen (i:=9) w (ss_is_gap w hd hΦ) (by kernel_rfl) rfl rfl rfl rfl fun _ _ _ _ _ _ _=>len1 fun _=>BindsTo.of_eq rfl) ?_
  refine all_cons (ok_gen (i:=10) w (ss_skip_gaps w hd hΦ) (by kernel_rfl) rfl rfl rfl rfl fun _ _ _ _ _ _ _=>len2 fun _ _=>BindsTo.of_eq rfl) ?_
  refine all_cons (ok_gen (i:=11) w (ss_comment_behind w hd hΦ) (by kernel_rfl) rfl rfl rfl rfl fun _ _ _ _ _ _ _=>len2 fun _ _=>BindsTo.of_eq rfl) ?_
  refine all_cons (ok_gen (i:=12) w (ss_skip_to_command w hd hΦ) (by kernel_rfl) rfl rfl rfl rfl fun _ _ _ _ _ _ _=>len2 fun _ _=>BindsTo.of_eq rfl) ?_
  refine all_cons (ok_gen (i:=13) w (ss_read_name w hd hΦ) (by kernel_rfl) rfl rfl rfl rfl fun _ _ _ _ _ _ _=>len2 fun _ _=>BindsTo.of_eq rfl) ?_
  refine all_cons (ok_gen (i:=14) w (ss_variable w hd hΦ) (by kernel_rfl) rfl rfl rfl rfl fun _ _ _ _ _ _ _=>len2 fun _ _=>BindsTo.of_eq rfl) ?_
  refine all_cons (ok_gen (i:=15) w (ss_brackets w hd hΦ) (by kernel_rfl) rfl rfl rfl rfl fun _ _ _ _ _ _ _=>len2 fun _ _=>BindsTo.of_eq rfl) ?_
  refine all_cons (ok_gen (i:=16) w (ss_braces w hd hΦ) (by kernel_rfl) rfl rfl rfl rfl fun _ _ _ _ _ _ _=>len2 fun _ _=>BindsTo.of_eq rfl) ?_
  refine all_cons (ok_gen (i:=17) w (ss_parts_until w hd hΦ) (by kernel_rfl) rfl rfl rfl rfl fun _ _ _ _ _ _ _=>len3 fun _ _ _=>BindsTo.of_eq rfl) ?_
  refine all_cons (ok_gen (i:=18) w (ss_bare_stops w hd hΦ) (by kernel_rfl) rfl rfl rfl rfl fun _ _ _ _ _ _ _=>len1 fun _=>BindsTo.of_eq rfl) ?_
  refine all_cons (ok_gen (i:=19) w (ss_is_expanded w hd hΦ) (by kernel_rfl) rfl rfl rfl rfl fun _ _ _ _ _ _ _=>len2 fun _ _=>BindsTo.of_eq rfl) ?_
  refine all_cons (ok_gen (i:=20) w (ss_word w hd hΦ) (by kernel_rfl) rfl rfl rfl rfl fun _ _ _ _ _ _ _=>len3 fun _ _ _=>BindsTo.of_eq rfl) ?_
  refine all_cons (ok_cmd w hd hΦ) ?_
  refine all_cons (ok_gen (i:=25) w (ss_law_closed w hd hΦ) (by kernel_rfl) rfl rfl rfl rfl fun _ _ _ _ _ _ _=>len2 fun _ _=>BindsTo.of_eq rfl) ?_
  refine all_cons (ok_gen (i:=26) w (ss_law_read w hd hΦ) (by kernel_rfl) rfl rfl rfl rfl fun _ _ _ _ _ _ _=>len3 fun _ _ _=>BindsTo.of_eq rfl) ?_
  refine all_cons (ok_gen (i:=27) w (ss_law_none_earlier w hd hΦ) (by kernel_rfl) rfl rfl rfl rfl fun _ _ _ _ _ _ _=>len3 fun _ _ _=>BindsTo.of_eq rfl) ?_
  refine all_cons (ok_gen (i:=28) w (ss_law_alone w hd hΦ) (by kernel_rfl) rfl rfl rfl rfl fun _ _ _ _ _ _ _=>len2 fun _ _=>BindsTo.of_eq rfl) ?_
  refine all_cons (ok_gen (i:=29) w (ss_law_script_right w hd hΦ) (by kernel_rfl) rfl rfl rfl rfl fun _ _ _ _ _ _ _=>len3 fun _ _ _=>BindsTo.of_eq rfl) ?_
  refine all_cons (ok_gen (i:=30) w (ss_law_closers_right w hd hΦ) (by kernel_rfl) rfl rfl rfl rfl fun _ _ _ _ _ _ _=>len1 fun _=>BindsTo.of_eq rfl) ?_
  refine all_cons (ok_gen (i:=31) w (ss_law_text_right w hd hΦ) (by kernel_rfl) rfl rfl rfl rfl fun _ _ _ _ _ _ _=>len3 fun _ _ _=>BindsTo.of_eq rfl) ?_
  exact all_nil
theorem good {C:Cx} (w:W C) (d:Nat):Good C d (Φ d):=by
  induction d with
  | zero=>exact fun n args r h=>by cases h
  | succ d ih =>
    intro n args r h
    unfold Φ at h
    split at h
    · cases h
    · rename_i hd
      split at h
      · cases h
      · rename_i t ht
        have hn:t.n = n:=eq_of_beq (List.find?_some ht :)
        subst hn
        split at h
        · rename_i hl
          obtain ⟨o,h1,rfl⟩:=Option.map_eq_some_iff.mp h
          exact okt w (Nat.le_of_not_lt hd) ih t (List.mem_of_find?_eq_some ht) args o hl h1
        · cases h
end Mine
end
section
set_option tactic.hygienic false
open PySem PySem.W PyProof.Rows PySem.Spec PySem.Calls PySem.Builtin PySem.Builtin.Str
namespace Mine
noncomputable def mk (t:List Nat):Str:=⟨t.toArray⟩
noncomputable def Sx (t:List Nat):PyData:=.str (mk t)
theorem mk_len (t:List Nat):(mk t).length = t.length:=by simp [mk,Str.length]
theorem mk_app (a b:List Nat):mk a ++ mk b = mk (a ++ b):=by
  show (⟨(mk a).cps ++ (mk b).cps⟩:Str) = _
  simp [mk]
theorem mk_cps (t:List Nat):(mk t).cps.toList = t:=by simp [mk]
theorem mk_inj {a b:List Nat}:mk a = mk b ↔ a = b:=⟨fun h=>by have:=congrArg (·.cps.toList) h;simpa [mk] using this,fun h=>h ▸ rfl⟩
theorem lit_ofString (s:String):Str.ofString s = mk (Str.ofString s).cps.toList:=by simp [mk]
noncomputable def pos (t s:List Nat):Int:=(t.length:Int) - s.length
theorem pos_cons (t:List Nat) (c:Nat) (s:List Nat):pos t (c :: s) + 1 = pos t s:=by unfold pos;simp;lia
theorem suf_drop {s t:List Nat} (h:s <:+ t):t.drop (t.length - s.length) = s:=(List.suffix_iff_eq_drop.mp h).symm
theorem suf_len {s t:List Nat} (h:s <:+ t):s.length ≤ t.length:=h.length_le
theorem pos_nonneg {s t:List Nat} (h:s <:+ t):0 ≤ pos t s:=by have:=suf_len h;unfold pos;lia
theorem pos_le {s t:List Nat}:pos t s ≤ t.length:=by unfold pos;lia
theorem pos_of {s t:List Nat} (h:s <:+ t):pos t s = ((t.length - s.length:Nat):Int):=(Int.ofNat_sub (suf_len h)).symm
theorem pos_toNat {s t:List Nat} (h:s <:+ t):(pos t s).toNat = t.length - s.length:=by rw [pos_of h,Int.toNat_natCast]
theorem pos_nil (t:List Nat):pos t [] = t.length:=by simp [pos]
theorem pos_self (t:List Nat):pos t t = 0:=by simp [pos]
theorem pos_lt (t s:List Nat):decide (pos t s < t.length) = !s.isEmpty:=by
  cases s with
  | nil=>simp [pos]
  | cons c s =>
    simp only [List.isEmpty_cons,Bool.not_false,decide_eq_true_eq]
    unfold pos;simp;lia
theorem suf_tail {c:Nat} {s t:List Nat} (h:c :: s <:+ t):s <:+ t:=(List.suffix_cons c s).trans h
theorem seqIndex_nat {i:Int} {n:Nat} (h0:0 ≤ i) (h1:i < n):seqIndex? i n = some i.toNat:=StrLaws.seqIndex_nonneg h0 h1
noncomputable def Small (t:List Nat):Prop:=t.length ≤ 1000
theorem item_at {t s:List Nat} {c:Nat} (h:c :: s <:+ t) (ht:Small t):itemD (Sx t) (.int (pos t (c :: s))) = some (Sx [c]):=by
  have hl:=suf_len h
  have h0:=pos_nonneg h
  have h1:pos t (c :: s) < t.length:=by unfold pos;simp;lia
  unfold Small at ht
  have h2:-(2 ^ 63) ≤ pos t (c :: s)∧pos t (c :: s) < 2 ^ 63:=by constructor <;> lia
  unfold itemD Sx
  dsimp only
  rw [if_pos h2,mk_len,seqIndex_nat h0 h1,pos_toNat h]
  have e:t[t.length - (c :: s).length]? = some c:=by
    have:=congrArg (·[0]?) (suf_drop h)
    simpa using this
  have e2:(mk t).cps[t.length - (c :: s).length]? = some c:=by simpa [mk] using e
  simp only [Option.bind_some,e2,Option.map_some]
  rfl
theorem slice_nat (t:List Nat) (a b:Nat):Txt.slice (mk t) (some (a:Int)) (some (b:Int)) = mk ((t.drop a).take (b - a)):=by
  have e:strSliceIndices (some (a:Int)) (some (b:Int)) 1 (mk t).length = (List.range (min b t.length - min a t.length)).map (min a t.length + ·):=by
    unfold strSliceIndices
    rw [mk_len]
    simp only [show (1:Int) > 0 by decide,if_true,if_neg (show ¬ ((a:Int) < 0) by lia),if_neg (show ¬ ((b:Int) < 0) by lia)]
    rw [show max 0 (min (a:Int) t.length) = ((min a t.length:Nat):Int) by lia,show max 0 (min (b:Int) t.length) = ((min b t.length:Nat):Int) by lia]
    exact sliceRange_one _ _
  unfold Txt.slice
  rw [e]
  have key:((List.range (min b t.length - min a t.length)).map (min a t.length + ·)).filterMap ((mk t).cps[·]?) = (t.drop a).take (b - a):=by
    rw [pick_run,mk_cps]
    by_cases h:a ≤ t.length
    · rw [Nat.min_eq_left h]
      by_cases h2:b ≤ t.length
      · rw [Nat.min_eq_left h2]
      · rw [Nat.min_eq_right (by lia),List.take_of_length_le (by simp),List.take_of_length_le (by simp;lia)]
    · rw [Nat.min_eq_right (by lia:t.length ≤ a),List.drop_of_length_le (Nat.le_refl _),List.drop_of_length_le (by lia)]
      simp
  split
  · rename_i hc
    simp only [beq_self_eq_true,Bool.true_and,beq_iff_eq,List.length_map,List.length_range,mk_len] at hc
    by_cases hz:t.length = 0
    · have:t = []:=List.eq_nil_of_length_eq_zero hz
      subst this;simp
    · have ha:a = 0:=by lia
      have hb:t.length ≤ b:=by lia
      subst ha
      rw [List.drop_zero,List.take_of_length_le (by lia)]
  · rw [key];rfl
theorem slice_mk (t:List Nat) {a b:Int} (ha:0 ≤ a) (hb:0 ≤ b):Txt.slice (mk t) (some a) (some b) = mk ((t.drop a.toNat).take (b.toNat - a.toNat)):=by
  have:=slice_nat t a.toNat b.toNat
  rwa [Int.toNat_of_nonneg ha,Int.toNat_of_nonneg hb] at this
theorem slice_upto (t:List Nat) {b:Int} (hb:0 ≤ b):Txt.slice (mk t) none (some b) = mk (t.take b.toNat):=by
  have e:Txt.slice (mk t) none (some b) = Txt.slice (mk t) (some 0) (some b):=by
    unfold Txt.slice;rw [StrLaws.sliceIdx_none_lo]
  rw [e,slice_mk t (by lia) hb];simp
theorem slice_neg_from (t:List Nat) {a:Int} (h0:a < 0) (h1:-(t.length:Int) ≤ a):Txt.slice (mk t) (some a) none = mk (t.drop (a + t.length).toNat):=by
  have e:Txt.slice (mk t) (some a) none = Txt.slice (mk t) (some (a + t.length)) (some (t.length:Int)):=by
    unfold Txt.slice
    rw [StrLaws.sliceIdx_neg_lo none (mk t).length h0 (by rw [mk_len];exact h1),StrLaws.sliceIdx_none_hi,mk_len]
  rw [e,slice_mk t (by lia) (by lia),List.take_of_length_le (by simp)]
theorem cut_gen {t:List Nat} (ht:Small t) {a b:Int} (ha:0 ≤ a) (hb:0 ≤ b):cutD (Sx t) (some a) (some b) = some (Sx ((t.drop a.toNat).take (b.toNat - a.toNat))):=by
  unfold cutD Sx
  unfold Small at ht
  dsimp only
  rw [if_pos (by rw [mk_len];lia),slice_mk t ha hb]
theorem cut_at {t s:List Nat} (h:s <:+ t) (ht:Small t) (a b:Nat):cutD (Sx t) (some (pos t s + a)) (some (pos t s + b)) = some (Sx ((s.drop a).take (b - a))):=by
  have h0:=pos_nonneg h
  have ea:∀ k:Nat,0 ≤ pos t s + (k:Int):=fun k=>Int.add_nonneg h0 (Int.natCast_nonneg k)
  have et:∀ k:Nat,(pos t s + (k:Int)).toNat = t.length - s.length + k:=fun k=>by rw [pos_of h,← Int.natCast_add,Int.toNat_natCast]
  rw [cut_gen ht (ea a) (ea b),et,et,Nat.add_sub_add_left,← List.drop_drop,suf_drop h]
theorem cut_at0 {t s:List Nat} (h:s <:+ t) (ht:Small t) (b:Nat):cutD (Sx t) (some (pos t s)) (some (pos t s + b)) = some (Sx (s.take b)):=by
  have:=cut_at h ht 0 b
  simpa using this
theorem cut_to {t s r:List Nat} (h:s <:+ t) (hr:r <:+ s) (ht:Small t):cutD (Sx t) (some (pos t s)) (some (pos t r)) = some (Sx (s.take (s.length - r.length))):=by
  have hl:=suf_len hr
  have e:pos t r = pos t s + ((s.length - r.length:Nat):Int):=by unfold pos;lia
  rw [e,cut_at0 h ht]
theorem lenD_mk {t:List Nat} (ht:Small t):lenD (Sx t) = some (.int t.length):=by
  unfold lenD Sx Small at *
  dsimp only
  rw [if_pos (by rw [mk_len];lia),mk_len]
theorem eqD_mk (a b:List Nat):eqD (Sx a) (Sx b) = some (a == b):=by
  unfold eqD Sx
  dsimp only
  rw [mk_cps,mk_cps]
theorem neD_mk (a b:List Nat):neD (Sx a) (Sx b) = some (!(a == b)):=by unfold neD;rw [eqD_mk];rfl
theorem addD_mk {a b:List Nat} (h:a.length + b.length ≤ 1000000):addD (Sx a) (Sx b) = some (Sx (a ++ b)):=by
  unfold addD Sx
  dsimp only
  rw [if_pos (by rw [mk_len,mk_len];exact h),mk_app]
theorem mk_beq (a b:List Nat):(mk a == mk b) = (a == b):=by
  rw [Bool.eq_iff_iff,beq_iff_eq,beq_iff_eq];exact mk_inj
theorem contains_mk (x:List Nat) (c:Nat):Txt.contains (mk x) (mk [c]) = decide (c ∈ x):=by
  have:=StrLaws.found_one (mk x) c
  rw [mk_cps] at this
  exact this
theorem inD_text (x:List Nat) (c:Nat):inD (Sx [c]) (Sx x) = some (decide (c ∈ x)):=by
  unfold inD Sx
  dsimp only
  rw [contains_mk]
theorem ninD_text (x:List Nat) (c:Nat):ninD (Sx [c]) (Sx x) = some (!decide (c ∈ x)):=by unfold ninD;rw [inD_text];rfl
theorem strsD_mk:∀ l:List (List Nat),strsD (l.map Sx) = some (l.map mk)
  | []=>rfl
  | a :: l=>by show (strsD (l.map Sx)).map (mk a :: ·) = _;rw [strsD_mk l];rfl
theorem inD_tup (x:List Nat) (l:List (List Nat)):inD (Sx x) (.tuple (l.map Sx)) = some (decide (x ∈ l)):=by
  unfold inD
  show (strsD (l.map Sx)).map _ = _
  rw [strsD_mk]
  show some ((l.map mk).any (· == mk x)) = _
  congr 1
  rw [Bool.eq_iff_iff,List.any_eq_true,decide_eq_true_eq]
  constructor
  · rintro ⟨y,hy,e⟩
    obtain ⟨z,hz,rfl⟩:=List.mem_map.mp hy
    have:=mk_inj.mp (beq_iff_eq.mp e)
    exact this ▸ hz
  · exact fun h=>⟨mk x,List.mem_map_of_mem h,beq_self_eq_true _⟩
theorem ninD_tup (x:List Nat) (l:List (List Nat)):ninD (Sx x) (.tuple (l.map Sx)) = some (!decide (x ∈ l)):=by unfold ninD;rw [inD_tup];rfl
end Mine
namespace Mine
theorem cut1 {t s:List Nat} (h:s <:+ t) (ht:Small t):cutD (Sx t) (some (pos t s)) (some (pos t s + 1)) = some (Sx (s.take 1)):=cut_at0 h ht 1
theorem cut2 {t s:List Nat} (h:s <:+ t) (ht:Small t):cutD (Sx t) (some (pos t s)) (some (pos t s + 2)) = some (Sx (s.take 2)):=cut_at0 h ht 2
theorem cut3 {t s:List Nat} (h:s <:+ t) (ht:Small t):cutD (Sx t) (some (pos t s)) (some (pos t s + 3)) = some (Sx (s.take 3)):=cut_at0 h ht 3
theorem cut12 {t s:List Nat} (h:s <:+ t) (ht:Small t):cutD (Sx t) (some (pos t s + 1)) (some (pos t s + 2)) = some (Sx ((s.drop 1).take 1)):=cut_at h ht 1 2
theorem pos_cons2 (t:List Nat) (c d:Nat) (s:List Nat):pos t (c :: d :: s) + 2 = pos t s:=by unfold pos;simp;lia
end Mine
end
section
set_option tactic.hygienic false
open PySem PySem.W PyProof.Rows PySem.Spec PySem.Calls
namespace Mine
@[simp] theorem lit_0:PyData.str (Str.ofString "u") = Sx [117]:=rfl
@[simp] theorem lit_1:PyData.str (Str.ofString "U") = Sx [85]:=rfl
@[simp] theorem lit_2:PyData.str (Str.ofString "") = Sx []:=rfl
@[simp] theorem lit_3:PyData.str (Str.ofString "\n") = Sx [10]:=rfl
@[simp] theorem lit_4:PyData.str (Str.ofString "\\") = Sx [92]:=rfl
@[simp] theorem lit_5:PyData.str (Str.ofString "abfnrtv") = Sx [97,98,102,110,114,116,118]:=rfl
@[simp] theorem lit_6:PyData.str (Str.ofString " ") = Sx [32]:=rfl
@[simp] theorem lit_7:PyData.str (Str.ofString "x") = Sx [120]:=rfl
@[simp] theorem lit_8:PyData.str (Str.ofString "0") = Sx [48]:=rfl
@[simp] theorem lit_9:PyData.str (Str.ofString "1") = Sx [49]:=rfl
@[simp] theorem lit_10:PyData.str (Str.ofString "2") = Sx [50]:=rfl
@[simp] theorem lit_11:PyData.str (Str.ofString "3") = Sx [51]:=rfl
@[simp] theorem lit_12:PyData.str (Str.ofString "4") = Sx [52]:=rfl
@[simp] theorem lit_13:PyData.str (Str.ofString "5") = Sx [53]:=rfl
@[simp] theorem lit_14:PyData.str (Str.ofString "6") = Sx [54]:=rfl
@[simp] theorem lit_15:PyData.str (Str.ofString "7") = Sx [55]:=rfl
@[simp] theorem lit_16:PyData.str (Str.ofString "\x07\x08\x0c\n\x0d\x09\x0b") = Sx [7,8,12,10,13,9,11]:=rfl
@[simp] theorem lit_17:PyData.str (Str.ofString "\x09") = Sx [9]:=rfl
@[simp] theorem lit_18:PyData.str (Str.ofString "\x0b") = Sx [11]:=rfl
@[simp] theorem lit_19:PyData.str (Str.ofString "\x0c") = Sx [12]:=rfl
@[simp] theorem lit_20:PyData.str (Str.ofString "\x0d") = Sx [13]:=rfl
@[simp] theorem lit_21:PyData.str (Str.ofString "\\\n") = Sx [92,10]:=rfl
@[simp] theorem lit_22:PyData.str (Str.ofString ";") = Sx [59]:=rfl
@[simp] theorem lit_23:PyData.str (Str.ofString "#") = Sx [35]:=rfl
@[simp] theorem lit_24:PyData.str (Str.ofString "_") = Sx [95]:=rfl
@[simp] theorem lit_25:PyData.str (Str.ofString "::") = Sx [58,58]:=rfl
@[simp] theorem lit_26:PyData.str (Str.ofString ":") = Sx [58]:=rfl
@[simp] theorem lit_27:PyData.str (Str.ofString "{") = Sx [123]:=rfl
@[simp] theorem lit_28:PyData.str (Str.ofString "(") = Sx [40]:=rfl
@[simp] theorem lit_29:PyData.str (Str.ofString "}") = Sx [125]:=rfl
@[simp] theorem lit_30:PyData.str (Str.ofString "var") = Sx [118,97,114]:=rfl
@[simp] theorem lit_31:PyData.str (Str.ofString "missing close-brace for variable name") = Sx [109,105,115,115,105,110,103,32,99,108,111,115,101,45,98,114,97,99,101,32,102,111,114,32,118,97,114,105,97,98,108,101,32,110,97,109,101]:=rfl
@[simp] theorem lit_32:PyData.str (Str.ofString ")") = Sx [41]:=rfl
@[simp] theorem lit_33:PyData.str (Str.ofString "missing )") = Sx [109,105,115,115,105,110,103,32,41]:=rfl
@[simp] theorem lit_34:PyData.str (Str.ofString "text") = Sx [116,101,120,116]:=rfl
@[simp] theorem lit_35:PyData.str (Str.ofString "$") = Sx [36]:=rfl
@[simp] theorem lit_36:PyData.str (Str.ofString "]") = Sx [93]:=rfl
@[simp] theorem lit_37:PyData.str (Str.ofString "missing close-bracket") = Sx [109,105,115,115,105,110,103,32,99,108,111,115,101,45,98,114,97,99,107,101,116]:=rfl
@[simp] theorem lit_38:PyData.str (Str.ofString "missing close-brace") = Sx [109,105,115,115,105,110,103,32,99,108,111,115,101,45,98,114,97,99,101]:=rfl
@[simp] theorem lit_39:PyData.str (Str.ofString "{}\\") = Sx [123,125,92]:=rfl
@[simp] theorem lit_40:PyData.str (Str.ofString "[") = Sx [91]:=rfl
@[simp] theorem lit_41:PyData.str (Str.ofString "cmd") = Sx [99,109,100]:=rfl
@[simp] theorem lit_42:PyData.str (Str.ofString "$[\\") = Sx [36,91,92]:=rfl
@[simp] theorem lit_43:PyData.str (Str.ofString "{*}") = Sx [123,42,125]:=rfl
@[simp] theorem lit_44:PyData.str (Str.ofString "\"") = Sx [34]:=rfl
@[simp] theorem lit_45:PyData.str (Str.ofString "missing \"") = Sx [109,105,115,115,105,110,103,32,34]:=rfl
@[simp] theorem lit_46:PyData.str (Str.ofString "extra characters after close-brace") = Sx [101,120,116,114,97,32,99,104,97,114,97,99,116,101,114,115,32,97,102,116,101,114,32,99,108,111,115,101,45,98,114,97,99,101]:=rfl
@[simp] theorem lit_47:PyData.str (Str.ofString "extra characters after close-quote") = Sx [101,120,116,114,97,32,99,104,97,114,97,99,116,101,114,115,32,97,102,116,101,114,32,99,108,111,115,101,45,113,117,111,116,101]:=rfl
@[simp] theorem lit_48:PyData.str (Str.ofString "missing") = Sx [109,105,115,115,105,110,103]:=rfl
@[simp] theorem lit_49:PyData.str (Str.ofString "*") = Sx [42]:=rfl
@[simp] theorem lit_50:PyData.str (Str.ofString "\" $a(") = Sx [34,32,36,97,40]:=rfl
@[simp] theorem lit_51:PyData.str (Str.ofString "r") = Sx [114]:=rfl
@[simp] theorem lit_52:PyData.str (Str.ofString "y") = Sx [121]:=rfl
@[simp] theorem lit_53:PyData.str (Str.ofString "a") = Sx [97]:=rfl
@[simp] theorem lit_54:PyData.str (Str.ofString "y \"") = Sx [121,32,34]:=rfl
@[simp] theorem lit_55:PyData.str (Str.ofString "r x") = Sx [114,32,120]:=rfl
@[simp] theorem lit_56:PyData.str (Str.ofString "\n\n") = Sx [10,10]:=rfl
@[simp] theorem lit_57:PyData.str (Str.ofString "NONE") = Sx [78,79,78,69]:=rfl
end Mine
end
section
open PySem
namespace Mine
noncomputable def isGap (c:Nat):Bool:=c == 32 || c == 9 || c == 11 || c == 12 || c == 13
noncomputable def skipGaps:List Nat→List Nat
  | []=>[]
  | c :: s=>if isGap c then skipGaps s else match s with
    | []=>[c]
    | d :: s'=>if c = 92∧d = 10 then skipGaps s' else c :: d :: s'
noncomputable def digitv (c:Nat):Int:=if 48 ≤ c∧c ≤ 57 then (c:Int) - 48 else if 97 ≤ c∧c ≤ 122 then (c:Int) - 87 else if 65 ≤ c∧c ≤ 90 then (c:Int) - 55 else -1
noncomputable def hexv:Nat→Int→List Nat→Int × List Nat
  | 0,v,s=>(v,s)
  | _ + 1,v,[]=>(v,[])
  | k + 1,v,c :: s=>if v ≤ 69631 then (if digitv c < 0 ∨ 15 < digitv c then (v,c :: s) else hexv k (v * 16 + digitv c) s) else (v,c :: s)
noncomputable def octv:Nat→Int→List Nat→Int × List Nat
  | 0,v,s=>(v,s)
  | _ + 1,v,[]=>(v,[])
  | k + 1,v,c :: s=>if v < 32 then (if digitv c < 0 ∨ 7 < digitv c then (v,c :: s) else octv k (v * 8 + digitv c) s) else (v,c :: s)
noncomputable def hexMost (c:Nat):Nat:=if c = 117 then 4 else if c = 85 then 8 else 2
noncomputable def hexS (c:Nat) (s:List Nat):List Nat × List Nat:=if (hexv (hexMost c) 0 s).2.length = s.length then ([c],s) else ([(hexv (hexMost c) 0 s).1.toNat],(hexv (hexMost c) 0 s).2)
noncomputable def blanks:List Nat→List Nat
  | []=>[]
  | c :: s=>if c = 32 ∨ c = 9 then blanks s else c :: s
noncomputable def known (c:Nat):Option Nat:=if c = 97 then some 7 else if c = 98 then some 8 else if c = 102 then some 12 else if c = 110 then some 10 else if c = 114 then some 13 else if c = 116 then some 9 else if c = 118 then some 11 else none
noncomputable def bs:List Nat→List Nat × List Nat
  | []=>([92],[])
  | c :: s=>match known c with
    | some k=>([k],s)
    | none=>if c = 10 then ([32],blanks s) else if c = 120 ∨ c = 117 ∨ c = 85 then hexS c s else if 48 ≤ c∧c ≤ 55 then ([(octv 3 0 (c :: s)).1.toNat],(octv 3 0 (c :: s)).2) else ([c],s)
noncomputable def comment:List Nat→List Nat
  | []=>[]
  | c :: s=>if c = 92 then (match s with
    | []=>[]
    | _ :: s'=>comment s') else if c = 10 then s else comment s
noncomputable def skipCmd:Bool→List Nat→List Nat
  | _,[]=>[]
  | false,c :: s=>if isGap c || c == 10 || c == 59 then skipCmd false s else if c = 35 then skipCmd true s else match s with
    | []=>[c]
    | d :: s'=>if c = 92∧d = 10 then skipCmd false s' else c :: d :: s'
  | true,c :: s=>if c = 92 then (match s with
    | []=>[]
    | _ :: s'=>skipCmd true s') else if c = 10 then skipCmd false s else skipCmd true s
noncomputable def nameR:Bool→List Nat→List Nat
  | _,[]=>[]
  | b,c :: s=>if c = 58 then (if b then nameR true s else match s with
    | []=>[c]
    | d :: s'=>if d = 58 then nameR true s' else c :: d :: s') else if c = 95 ∨ 0 ≤ digitv c then nameR false s else c :: s
noncomputable def brc:Nat→Bool→List Nat→List Nat→Option (List Nat × List Nat)
  | _,_,_,[]=>none
  | d,b,acc,c :: s =>
    if b = true∧(c = 32 ∨ c = 9) then brc d true acc s
    else if c = 123 then brc (d + 1) false (acc ++ [123]) s
    else if c = 125 then (match d with
      | 0=>some (acc,s)
      | d' + 1=>brc d' false (acc ++ [125]) s)
    else if c = 92 then (match s with
      | []=>none
      | e :: s'=>if e = 10 then brc d true (acc ++ [32]) s' else brc d false (acc ++ [92,e]) s')
    else brc d false (acc ++ [c]) s
noncomputable def isExp (s:List Nat):Bool:=s.take 3 == [123,42,125] && (match s.drop 3 with
  | []=>false
  | c :: r=>!(c == 10) && !(c == 59) && (skipGaps (c :: r)).length == (c :: r).length)
theorem skipGaps_suf:∀ s,skipGaps s <:+ s
  | []=>List.suffix_refl _
  | c :: s=>by
    unfold skipGaps
    split
    · exact (skipGaps_suf s).trans (List.suffix_cons ..)
    · split
      · exact List.suffix_refl _
      · rename_i d s'
        split
        · exact (skipGaps_suf s').trans ((List.suffix_cons ..).trans (List.suffix_cons ..))
        · exact List.suffix_refl _
theorem hexv_suf:∀ k v s,(hexv k v s).2 <:+ s
  | 0,v,s=>List.suffix_refl _
  | _ + 1,v,[]=>List.suffix_refl _
  | k + 1,v,c :: s=>by
    unfold hexv
    split
    · split
      · exact List.suffix_refl _
      · exact (hexv_suf k _ s).trans (List.suffix_cons ..)
    · exact List.suffix_refl _
theorem octv_suf:∀ k v s,(octv k v s).2 <:+ s
  | 0,v,s=>List.suffix_refl _
  | _ + 1,v,[]=>List.suffix_refl _
  | k + 1,v,c :: s=>by
    unfold octv
    split
    · split
      · exact List.suffix_refl _
      · exact (octv_suf k _ s).trans (List.suffix_cons ..)
    · exact List.suffix_refl _
theorem blanks_suf:∀ s,blanks s <:+ s
  | []=>List.suffix_refl _
  | c :: s=>by
    unfold blanks
    split
    · exact (blanks_suf s).trans (List.suffix_cons ..)
    · exact List.suffix_refl _
theorem hexS_suf (c:Nat) (s:List Nat):(hexS c s).2 <:+ s:=by
  unfold hexS
  split
  · exact List.suffix_refl _
  · exact hexv_suf _ _ _
theorem bs_suf (s:List Nat):(bs s).2 <:+ s:=by
  unfold bs
  split
  · exact List.suffix_refl _
  · rename_i c s
    split
    · exact List.suffix_cons ..
    · split
      · exact (blanks_suf s).trans (List.suffix_cons ..)
      · split
        · exact (hexS_suf c s).trans (List.suffix_cons ..)
        · split
          · exact octv_suf _ _ _
          · exact List.suffix_cons ..
theorem comment_suf:∀ s,comment s <:+ s
  | []=>List.suffix_refl _
  | c :: s=>by
    unfold comment
    split
    · split
      · exact List.nil_suffix
      · rename_i d s'
        exact (comment_suf s').trans ((List.suffix_cons ..).trans (List.suffix_cons ..))
    · split
      · exact List.suffix_cons ..
      · exact (comment_suf s).trans (List.suffix_cons ..)
theorem skipCmd_suf:∀ b s,skipCmd b s <:+ s
  | _,[]=>by unfold skipCmd;exact List.suffix_refl _
  | false,c :: s=>by
    unfold skipCmd
    split
    · exact (skipCmd_suf false s).trans (List.suffix_cons ..)
    · split
      · exact (skipCmd_suf true s).trans (List.suffix_cons ..)
      · split
        · exact List.suffix_refl _
        · rename_i d s'
          split
          · exact (skipCmd_suf false s').trans ((List.suffix_cons ..).trans (List.suffix_cons ..))
          · exact List.suffix_refl _
  | true,c :: s=>by
    unfold skipCmd
    split
    · split
      · exact List.nil_suffix
      · rename_i d s'
        exact (skipCmd_suf true s').trans ((List.suffix_cons ..).trans (List.suffix_cons ..))
    · split
      · exact (skipCmd_suf false s).trans (List.suffix_cons ..)
      · exact (skipCmd_suf true s).trans (List.suffix_cons ..)
theorem nameR_suf:∀ b s,nameR b s <:+ s
  | _,[]=>by unfold nameR;exact List.suffix_refl _
  | b,c :: s=>by
    unfold nameR
    split
    · split
      · exact (nameR_suf true s).trans (List.suffix_cons ..)
      · split
        · exact List.suffix_refl _
        · rename_i d s'
          split
          · exact (nameR_suf true s').trans ((List.suffix_cons ..).trans (List.suffix_cons ..))
          · exact List.suffix_refl _
    · split
      · exact (nameR_suf false s).trans (List.suffix_cons ..)
      · exact List.suffix_refl _
theorem four_of {l:List Nat} (h:3 < l.length):∃ a b d x u,l = a :: b :: d :: x :: u:=by
  rcases l with _ | ⟨a,_ | ⟨b,_ | ⟨d,_ | ⟨x,u⟩⟩⟩⟩
  · exact absurd h (show ¬ 3 < 0 by decide)
  · exact absurd h (show ¬ 3 < 1 by decide)
  · exact absurd h (show ¬ 3 < 2 by decide)
  · exact absurd h (show ¬ 3 < 3 by decide)
  · exact ⟨a,b,d,x,u,rfl⟩
theorem brc_ind {M:List Nat→List Nat→List Nat→List Nat→Prop} (base:∀ acc s,M acc (125 :: s) acc s)
    (step:∀ acc p add s x r,p ≠ []→(∀ y ∈ add,y ∈ p ∨ y = 32)→M (acc ++ add) s x r→M acc (p ++ s) x r) (N:Nat):∀ d b acc s x r,s.length ≤ N→brc d b acc s = some (x,r)→M acc s x r:=by
  induction N with
  | zero =>
    intro d b acc s x r hl h
    rw [List.length_eq_zero_iff.mp (Nat.le_zero.mp hl)] at h
    unfold brc at h;cases h
  | succ N ih =>
    intro d b acc s x r hl h
    cases s with
    | nil=>unfold brc at h;cases h
    | cons c s =>
      have hl:=Nat.le_of_succ_le_succ hl
      have s1:∀ d b add,(∀ y ∈ add,y ∈ [c] ∨ y = 32)→brc d b (acc ++ add) s = some (x,r)→M acc (c :: s) x r:=fun d b add hy h=>step acc [c] add s x r (List.cons_ne_nil _ _) hy (ih d b _ s x r hl h)
      have o1:∀ z,c = z→∀ y ∈ [z],y ∈ [c] ∨ y = 32:=fun z e y hy=>.inl (e ▸ hy)
      unfold brc at h
      split at h
      · exact s1 _ _ [] (fun _ q=>nomatch q) (by rw [List.append_nil];exact h)
      · split at h
        · rename_i hc;exact s1 _ _ _ (o1 _ hc) h
        · split at h
          · rename_i hc
            split at h
            · cases h;subst hc;exact base _ _
            · exact s1 _ _ _ (o1 _ hc) h
          · split at h
            · rename_i hc
              split at h
              · cases h
              · rename_i e s' hl
                have s2:∀ d b add,(∀ y ∈ add,y ∈ [c,e] ∨ y = 32)→brc d b (acc ++ add) s' = some (x,r)→M acc (c :: e :: s') x r:=fun d b add hy h=>step acc [c,e] add s' x r (List.cons_ne_nil _ _) hy (ih d b _ s' x r (Nat.le_of_succ_le hl) h)
                split at h
                · exact s2 _ _ _ (fun y hy=>.inr (List.mem_singleton.mp hy)) h
                · exact s2 _ _ _ (fun y hy=>.inl (hc ▸ hy)) h
            · exact s1 _ _ _ (o1 _ rfl) h
theorem brc_125 (d:Nat) (b:Bool) (acc s x r:List Nat) (h:brc d b acc s = some (x,r)):125 :: r <:+ s :=
  brc_ind (M:=fun _ s _ r=>125 :: r <:+ s) (fun _ _=>List.suffix_refl _) (fun _ p _ s _ _ _ _ q=>q.trans (List.suffix_append p s)) _ d b acc s x r (Nat.le_refl _) h
theorem brc_suf (d:Nat) (b:Bool) (acc s x r:List Nat) (h:brc d b acc s = some (x,r)):r <:+ s∧r.length < s.length :=
  ⟨(List.suffix_cons _ _).trans (brc_125 d b acc s x r h),(brc_125 d b acc s x r h).length_le⟩
theorem brc_pre (d:Nat) (b:Bool) (acc s x r:List Nat) (h:brc d b acc s = some (x,r)):acc.length ≤ x.length :=
  brc_ind (M:=fun acc _ x _=>acc.length ≤ x.length) (fun _ _=>Nat.le_refl _) (fun acc _ add _ _ _ _ _ q=>Nat.le_trans (by rw [List.length_append];exact Nat.le_add_right _ _) q) _ d b acc s x r (Nat.le_refl _) h
end Mine
end
section
set_option tactic.hygienic false
open PySem PySem.W PyProof.Rows PySem.Spec PySem.Calls
namespace Mine
theorem phi_succ {n:Nat} (hn:3 ≤ n) (x:Str) (args:List PyData):Φ (n + 1) x args = (match fdTable.find? (·.n == x) with
    | none=>none
    | some t=>if (fullArgs x args).length = t.np then (t.den (Φ n) (store0 (fullArgs x args) t.nn)).map outR else none):=by
  show (if n < 3 then none else _) = _
  rw [if_neg (by lia)]
  all_goals rfl
theorem phi_digit {n:Nat} (hn:3 ≤ n) (a0:PyData):Φ (n + 1) "digit" [a0] = (den_digit (Φ n) ⟨[some a0,none],none⟩).map outR:=by
  rw [phi_succ hn]
  rfl
theorem phi_hex_sign {n:Nat} (hn:3 ≤ n) (a0 a1:PyData):Φ (n + 1) "hex_sign" [a0,a1] = (den_hex_sign (Φ n) ⟨[some a0,some a1,none,none,none,none],none⟩).map outR:=by
  rw [phi_succ hn]
  rfl
theorem phi_octal_sign {n:Nat} (hn:3 ≤ n) (a0 a1:PyData):Φ (n + 1) "octal_sign" [a0,a1] = (den_octal_sign (Φ n) ⟨[some a0,some a1,none,none,none],none⟩).map outR:=by
  rw [phi_succ hn]
  rfl
theorem phi_backslash {n:Nat} (hn:3 ≤ n) (a0 a1:PyData):Φ (n + 1) "backslash" [a0,a1] = (den_backslash (Φ n) ⟨[some a0,some a1,none,none,none],none⟩).map outR:=by
  rw [phi_succ hn]
  rfl
theorem phi_is_gap {n:Nat} (hn:3 ≤ n) (a0:PyData):Φ (n + 1) "is_gap" [a0] = (den_is_gap (Φ n) ⟨[some a0],none⟩).map outR:=by
  rw [phi_succ hn]
  rfl
theorem phi_skip_gaps {n:Nat} (hn:3 ≤ n) (a0 a1:PyData):Φ (n + 1) "skip_gaps" [a0,a1] = (den_skip_gaps (Φ n) ⟨[some a0,some a1],none⟩).map outR:=by
  rw [phi_succ hn]
  rfl
theorem phi_comment_behind {n:Nat} (hn:3 ≤ n) (a0 a1:PyData):Φ (n + 1) "comment_behind" [a0,a1] = (den_comment_behind (Φ n) ⟨[some a0,some a1,none],none⟩).map outR:=by
  rw [phi_succ hn]
  rfl
theorem phi_skip_to_command {n:Nat} (hn:3 ≤ n) (a0 a1:PyData):Φ (n + 1) "skip_to_command" [a0,a1] = (den_skip_to_command (Φ n) ⟨[some a0,some a1],none⟩).map outR:=by
  rw [phi_succ hn]
  rfl
theorem phi_read_name {n:Nat} (hn:3 ≤ n) (a0 a1:PyData):Φ (n + 1) "read_name" [a0,a1] = (den_read_name (Φ n) ⟨[some a0,some a1],none⟩).map outR:=by
  rw [phi_succ hn]
  rfl
theorem phi_variable {n:Nat} (hn:3 ≤ n) (a0 a1:PyData):Φ (n + 1) "variable" [a0,a1] = (den_variable (Φ n) ⟨[some a0,some a1,none,none,none,none],none⟩).map outR:=by
  rw [phi_succ hn]
  rfl
theorem phi_brackets {n:Nat} (hn:3 ≤ n) (a0 a1:PyData):Φ (n + 1) "brackets" [a0,a1] = (den_brackets (Φ n) ⟨[some a0,some a1,none,none,none],none⟩).map outR:=by
  rw [phi_succ hn]
  rfl
theorem phi_braces {n:Nat} (hn:3 ≤ n) (a0 a1:PyData):Φ (n + 1) "braces" [a0,a1] = (den_braces (Φ n) ⟨[some a0,some a1,none,none,none,none,none,none,none],none⟩).map outR:=by
  rw [phi_succ hn]
  rfl
theorem phi_parts_until {n:Nat} (hn:3 ≤ n) (a0 a1 a2:PyData):Φ (n + 1) "parts_until" [a0,a1,a2] = (den_parts_until (Φ n) ⟨[some a0,some a1,some a2,none,none,none,none,none,none,none],none⟩).map outR:=by
  rw [phi_succ hn]
  rfl
theorem phi_bare_stops {n:Nat} (hn:3 ≤ n) (a0:PyData):Φ (n + 1) "bare_stops" [a0] = (den_bare_stops (Φ n) ⟨[some a0],none⟩).map outR:=by
  rw [phi_succ hn]
  rfl
theorem phi_is_expanded {n:Nat} (hn:3 ≤ n) (a0 a1:PyData):Φ (n + 1) "is_expanded" [a0,a1] = (den_is_expanded (Φ n) ⟨[some a0,some a1,none],none⟩).map outR:=by
  rw [phi_succ hn]
  rfl
theorem phi_word {n:Nat} (hn:3 ≤ n) (a0 a1 a2:PyData):Φ (n + 1) "word" [a0,a1,a2] = (den_word (Φ n) ⟨[some a0,some a1,some a2,none,none,none,none,none,none],none⟩).map outR:=by
  rw [phi_succ hn]
  rfl
theorem phi_command_at {n:Nat} (hn:3 ≤ n) (a0 a1 a2:PyData):Φ (n + 1) "command_at" [a0,a1,a2] = (den_command_at (Φ n) ⟨[some a0,some a1,some a2,none,none,none,none,none,none],none⟩).map outR:=by
  rw [phi_succ hn]
  rfl
theorem phi_law_closed {n:Nat} (hn:3 ≤ n) (a0 a1:PyData):Φ (n + 1) "_law_closed" [a0,a1] = (den_law_closed (Φ n) ⟨[some a0,some a1],none⟩).map outR:=by
  rw [phi_succ hn]
  rfl
theorem phi_law_read {n:Nat} (hn:3 ≤ n) (a0 a1 a2:PyData):Φ (n + 1) "_law_read" [a0,a1,a2] = (den_law_read (Φ n) ⟨[some a0,some a1,some a2,none,none],none⟩).map outR:=by
  rw [phi_succ hn]
  rfl
theorem phi_law_none_earlier {n:Nat} (hn:3 ≤ n) (a0 a1 a2:PyData):Φ (n + 1) "_law_none_earlier" [a0,a1,a2] = (den_law_none_earlier (Φ n) ⟨[some a0,some a1,some a2,none,none,none],none⟩).map outR:=by
  rw [phi_succ hn]
  rfl
theorem phi_law_alone {n:Nat} (hn:3 ≤ n) (a0 a1:PyData):Φ (n + 1) "_law_alone" [a0,a1] = (den_law_alone (Φ n) ⟨[some a0,some a1,none,none,none,none,none],none⟩).map outR:=by
  rw [phi_succ hn]
  rfl
theorem phi_law_script_right {n:Nat} (hn:3 ≤ n) (a0 a1 a2:PyData):Φ (n + 1) "_law_script_right" [a0,a1,a2] = (den_law_script_right (Φ n) ⟨[some a0,some a1,some a2,none,none,none,none,none,none,none],none⟩).map outR:=by
  rw [phi_succ hn]
  rfl
theorem phi_law_closers_right {n:Nat} (hn:3 ≤ n) (a0:PyData):Φ (n + 1) "_law_closers_right" [a0] = (den_law_closers_right (Φ n) ⟨[some a0,none,none,none,none],none⟩).map outR:=by
  rw [phi_succ hn]
  rfl
theorem phi_law_text_right {n:Nat} (hn:3 ≤ n) (a0 a1 a2:PyData):Φ (n + 1) "_law_text_right" [a0,a1,a2] = (den_law_text_right (Φ n) ⟨[some a0,some a1,some a2,none,none,none,none,none,none],none⟩).map outR:=by
  rw [phi_succ hn]
  rfl
theorem phi_command_at2 {n:Nat} (hn:3 ≤ n) (a0 a1:PyData):Φ (n + 1) "command_at" [a0,a1] = (den_command_at (Φ n) ⟨[some a0,some a1,some (.bool false),none,none,none,none,none,none],none⟩).map outR:=by
  rw [phi_succ hn]
  rfl
end Mine
end
section
set_option tactic.hygienic false
open PySem PySem.W PyProof.Rows PySem.Spec PySem.Calls PySem.Builtin PySem.Builtin.Str
namespace Mine
@[simp] theorem getV_mk (i:Nat) (vs:List (Option PyData)) (o:Option (Nat × List PyData)):getV i ⟨vs,o⟩ = (match vs[i]? with | some (some d)=>ret' d | _=>none):=rfl
@[simp] theorem setV_none (i:Nat) (d:PyData) (vs:List (Option PyData)):setV i d ⟨vs,none⟩ = some ⟨vs.set i (some d),none⟩:=rfl
@[simp] theorem frz_none (vs:List (Option PyData)):frz ⟨vs,none⟩ = ⟨vs,none⟩:=rfl
@[simp] theorem ordD_int (f:Int→Int→Bool) (a b:Int):ordD f (.int a) (.int b) = some (f a b):=rfl
@[simp] theorem boolD_bool (b:Bool):boolD (.bool b) = some b:=rfl
@[simp] theorem intD_int (b:Int):intD (.int b) = some b:=rfl
@[simp] theorem addD_int (a b:Int):addD (.int a) (.int b) = some (.int (a + b)):=rfl
@[simp] theorem subD_int (a b:Int):subD (.int a) (.int b) = some (.int (a - b)):=rfl
@[simp] theorem negD_int (a:Int):negD (.int a) = some (.int (-a)):=rfl
@[simp] theorem tupOf_tup (ds:List PyData):tupOf (.tuple ds) = some ds:=rfl
@[simp] theorem setVs_nil (σ:Store):setVs [] [] σ = some σ:=rfl
@[simp] theorem setVs_cons (i:Nat) (is:List Nat) (d:PyData) (ds:List PyData) (σ:Store):setVs (i :: is) (d :: ds) σ = obind (setV i d σ) (setVs is ds):=rfl
@[simp] theorem outR_ret (σ:Store) (d:PyData):outR (σ,.ret d) = .ok d:=rfl
@[simp] theorem outR_exc (σ:Store) (t:Str):outR (σ,.exc t) = .error t:=rfl
@[simp] theorem outR_nxt (σ:Store):outR (σ,.nxt) = .ok .none:=rfl
@[simp] theorem some_ok {α:Type} (a:α):(some (Except.ok a):Res α) = ret' a:=rfl
@[simp] theorem map_ret {α:Type} (o:α):Option.map (fun x:α=>(Except.ok x:Except Str α)) (some o) = ret' o:=rfl
@[simp] theorem eqD_Sx (a b:List Nat):eqD (Sx a) (Sx b) = some (a == b):=eqD_mk a b
@[simp] theorem neD_Sx (a b:List Nat):neD (Sx a) (Sx b) = some (!(a == b)):=neD_mk a b
@[simp] theorem inD_Sx (x:List Nat) (c:Nat):inD (Sx [c]) (Sx x) = some (decide (c ∈ x)):=inD_text x c
@[simp] theorem ninD_Sx (x:List Nat) (c:Nat):ninD (Sx [c]) (Sx x) = some (!decide (c ∈ x)):=ninD_text x c
theorem strs_any {x:List Nat} {l:List PyData} {k:List (List Nat)} (h:l = k.map Sx):inD (Sx x) (.tuple l) = some (decide (x ∈ k)):=by subst h;exact inD_tup x k
theorem is_gap_ok {n:Nat} (hn:4 ≤ n) (c:Nat):Φ n "is_gap" [Sx [c]] = ret' (.bool (isGap c)):=by
  obtain ⟨n,rfl⟩:∃ k,n = k + 1:=⟨n - 1,by lia⟩
  rw [phi_is_gap (by lia)]
  have h:inD (Sx [c]) (.tuple [Sx [32],Sx [9],Sx [11],Sx [12],Sx [13]]) = some (decide ([c] ∈ [[32],[9],[11],[12],[13]])):=strs_any rfl
  simp [den_is_gap,tupD,h,isGap,← Bool.or_assoc]
  rfl
end Mine
end
open PySem PySem.W PyProof.Rows PySem.Spec PySem.Calls PySem.Builtin PySem.Builtin.Str
namespace Mine
section
variable {Φ:Oracle} {σ σ' σ₁ σ₂:Store} {f g h':Store→Res PyData} {fa:Store→Res (List PyData)} {c c':Store→Res Bool} {p p' q:Store→Option Out} {a b d:PyData} {ds:List PyData} {x y:Bool} {fl:Flw} {i:Nat} {r:Res PyData} {O:Option Out} {t:Str} {n:Str}
theorem v_aCons (h:f σ = ret' d) (k:fa σ = ret' ds):aCons f fa σ = ret' (d :: ds):=by show bnd _ _ = _;rw [h];show bnd _ _ = _;rw [k];rfl
theorem v_tup (h:fa σ = ret' ds) (k:tupD ds = ret' d):dTup fa σ = ret' d:=by show bnd _ _ = _;rw [h];exact k
theorem v_lst (h:fa σ = ret' ds) (k:listD ds = ret' d):dLst fa σ = ret' d:=by show bnd _ _ = _;rw [h];exact k
theorem v_bin {o:PyData→PyData→Option PyData} (h:f σ = ret' a) (k:g σ = ret' b) (e:o a b = some d):dBin o f g σ = ret' d:=by show bnd _ _ = _;rw [h];show bnd _ _ = _;rw [k];show lft _ = _;rw [e];rfl
theorem v_cmp {o:PyData→PyData→Option Bool} (h:f σ = ret' a) (k:g σ = ret' b) (e:o a b = some x):dCmp o f g σ = ret' (.bool x):=by show bnd _ _ = _;rw [h];show bnd _ _ = _;rw [k];show lft _ = _;rw [e];rfl
theorem v_idx (h:f σ = ret' a) (k:g σ = ret' b) (e:itemD a b = some d):dIdx f g σ = ret' d:=by show bnd _ _ = _;rw [h];show bnd _ _ = _;rw [k];show lft _ = _;rw [e];rfl
theorem v_on {o:PyData→Option PyData} (h:f σ = ret' a) (e:o a = some d):dOn o f σ = ret' d:=by show bnd _ _ = _;rw [h];show lft _ = _;rw [e];rfl
theorem v_call (h:fa σ = ret' ds) (e:Φ n ds = r):dCall Φ n fa σ = r:=by show bnd _ _ = _;rw [h];exact e
theorem v_meth {o:PyData→List PyData→Option PyData} (h:f σ = ret' a) (s:strOnly a = ret' a) (k:fa σ = ret' ds) (e:o a ds = some d):dMeth o f fa σ = ret' d:=by show bnd (bnd _ _) _ = _;rw [h];show bnd (strOnly a) _ = _;rw [s];show bnd _ _ = _;rw [k];show lft _ = _;rw [e];rfl
theorem v_pOf {i:Int} (h:f σ = ret' (.int i)):pOf f σ = ret' (some i):=by show bnd _ _ = _;rw [h];rfl
theorem v_cut {fl fu:Store→Res (Option Int)} {l u:Option Int} (h:f σ = ret' a) (k:fl σ = ret' l) (k':fu σ = ret' u) (e:cutD a l u = some d):dCut f fl fu σ = ret' d:=by show bnd _ _ = _;rw [h];show bnd _ _ = _;rw [k];show bnd _ _ = _;rw [k'];show lft _ = _;rw [e];rfl
theorem v_ifT (h:c σ = ret' true) (k:f σ = r):dIf c f g σ = r:=by show bnd _ _ = _;rw [h];exact k
theorem v_ifF (h:c σ = ret' false) (k:g σ = r):dIf c f g σ = r:=by show bnd _ _ = _;rw [h];exact k
theorem v_andF (h:f σ = ret' (.bool false)):dAnd2 f g σ = ret' (.bool false):=by show bnd _ _ = _;rw [h];rfl
theorem v_andT (h:f σ = ret' (.bool true)) (k:g σ = r):dAnd2 f g σ = r:=by show bnd _ _ = _;rw [h];exact k
theorem v_orT (h:f σ = ret' (.bool true)):dOr2 f g σ = ret' (.bool true):=by show bnd _ _ = _;rw [h];rfl
theorem v_orF (h:f σ = ret' (.bool false)) (k:g σ = r):dOr2 f g σ = r:=by show bnd _ _ = _;rw [h];exact k
theorem add_of {a b c:Int} (h:a + b = c):addD (.int a) (.int b) = some (.int c):=by rw [← h];rfl
theorem sub_of {a b c:Int} (h:a - b = c):subD (.int a) (.int b) = some (.int c):=by rw [← h];rfl
theorem ord_of {f:Int→Int→Bool} {a b:Int} (h:f a b = x):ordD f (.int a) (.int b) = some x:=by rw [← h];rfl
theorem t_cmp {o:PyData→PyData→Option Bool} (h:f σ = ret' a) (k:g σ = ret' b) (e:o a b = some x):tCmp o f g σ = ret' x:=by show bnd _ _ = _;rw [h];show bnd _ _ = _;rw [k];show lft _ = _;rw [e];rfl
theorem t_plain (h:f σ = ret' (.bool x)):tPlain f σ = ret' x:=by show bnd _ _ = _;rw [h];rfl
theorem t_notT (h:c σ = ret' false):tNot c σ = ret' true:=by show bnd _ _ = _;rw [h];rfl
theorem t_notF (h:c σ = ret' true):tNot c σ = ret' false:=by show bnd _ _ = _;rw [h];rfl
theorem t_andF (h:c σ = ret' false):tAnd c c' σ = ret' false:=by show bnd _ _ = _;rw [h];rfl
theorem t_andT (h:c σ = ret' true) (k:c' σ = ret' x):tAnd c c' σ = ret' x:=by show bnd _ _ = _;rw [h];exact k
theorem t_orT (h:c σ = ret' true):tOr c c' σ = ret' true:=by show bnd _ _ = _;rw [h];rfl
theorem t_orF (h:c σ = ret' false) (k:c' σ = ret' x):tOr c c' σ = ret' x:=by show bnd _ _ = _;rw [h];exact k
theorem t_chainI {a b c:Int} (h:f σ = ret' (.int a)) (k:g σ = ret' (.int b)) (k':h' σ = ret' (.int c)) (e:decide (a ≤ b∧b ≤ c) = x):tChain (ordD fun a b=>decide (a ≤ b)) (ordD fun a b=>decide (a ≤ b)) f g h' σ = ret' x:=by
  rw [← e]
  simp only [tChain,h,bnd_ret,k,ordD_int,lft_of]
  by_cases q:a ≤ b <;> simp [q,k']
theorem c_asc {p1 p2:Store→Option Out} (k:sCons p1 (sCons p2 q) σ = O):sCons (sCons p1 p2) q σ = O:=by
  rw [← k]
  show sbind (sbind _ _) _ = sbind _ (fun τ=>sbind _ _)
  cases p1 σ with
  | none=>rfl
  | some u=>obtain ⟨τ,fl⟩:=u;cases fl <;> rfl
theorem c_one (k:sCons p sNil σ = O):p σ = O:=by
  rw [← k]
  show _ = sbind _ _
  cases p σ with
  | none=>rfl
  | some u=>obtain ⟨τ,fl⟩:=u;cases fl <;> rfl
theorem c_nil (k:q σ = O):sCons sNil q σ = O:=k
theorem c_nxt (h:p σ = some (σ₁,.nxt)) (k:q σ₁ = O):sCons p q σ = O:=by show sbind _ _ = _;rw [h];exact k
theorem c_exc (h:p σ = some (σ₁,.exc t)):sCons p q σ = some (σ₁,.exc t):=by show sbind _ _ = _;rw [h];rfl
theorem c_out (h:p σ = some (σ₁,.ret d)):sCons p q σ = some (σ₁,.ret d):=by show sbind _ _ = _;rw [h];rfl
theorem c_asg (h:f σ = ret' d) (k:setV i d σ = some σ₁) (j:q σ₁ = O):sCons (sAsg i f) q σ = O:=by show sbind (ebind _ _ _) _ = _;rw [h];show sbind (obind _ _) _ = _;rw [k];exact j
theorem c_asgE (h:f σ = some (.error t)) (e:σ = σ₁):sCons (sAsg i f) q σ = some (σ₁,.exc t):=by subst e;show sbind (ebind _ _ _) _ = _;rw [h];rfl
theorem c_aug {o:PyData→PyData→Option PyData} (h:getV i σ = ret' a) (h':f σ = ret' b) (e:o a b = some d) (k:setV i d σ = some σ₁) (j:q σ₁ = O):sCons (sAug o i f) q σ = O:=by
  show sbind (ebind _ _ _) _ = _;rw [h];show sbind (ebind _ _ _) _ = _;rw [h'];show sbind (obind _ _) _ = _;rw [e];show sbind (obind (setV i d σ) _) _ = _;rw [k];exact j
theorem c_unp {is:List Nat} (h:f σ = ret' (.tuple ds)) (k:setVs is ds σ = some σ₁) (j:q σ₁ = O):sCons (sUnp is f) q σ = O:=by show sbind (ebind _ _ _) _ = _;rw [h];show sbind (obind _ _) _ = _;rw [k];exact j
theorem c_unpE {is:List Nat} (h:f σ = some (.error t)) (e:σ = σ₁):sCons (sUnp is f) q σ = some (σ₁,.exc t):=by subst e;show sbind (ebind _ _ _) _ = _;rw [h];rfl
theorem c_iteT (h:c σ = ret' true) (k:sCons p q σ = O):sCons (sIte c p p') q σ = O:=by show sbind (ebind _ _ _) _ = _;rw [h];exact k
theorem c_iteF (h:c σ = ret' false) (k:sCons p' q σ = O):sCons (sIte c p p') q σ = O:=by show sbind (ebind _ _ _) _ = _;rw [h];exact k
theorem c_ret (h:f (frz σ) = ret' d) (e:σ = σ₁):sCons (sRet f) q σ = some (σ₁,.ret d):=by subst e;show sbind (ebind _ _ _) _ = _;rw [h];rfl
theorem c_retE (h:f (frz σ) = some (.error t)) (e:frz σ = σ₁):sCons (sRet f) q σ = some (σ₁,.exc t):=by subst e;show sbind (ebind _ _ _) _ = _;rw [h];rfl
theorem c_brk (e:σ = σ₁):sCons sBrk q σ = some (σ₁,.brk):=by subst e;rfl
theorem c_raise {t':Str} (e:σ = σ₁) (k:t = t'):sCons (sRaise t) q σ = some (σ₁,.exc t'):=by subst e;subst k;rfl
theorem c_own (h:fa σ = ret' ds) (k:ownV i ds σ = some σ₁) (j:q σ₁ = O):sCons (sOwn i fa) q σ = O:=by show sbind (ebind _ _ _) _ = _;rw [h];show sbind (obind _ _) _ = _;rw [k];exact j
theorem c_whl (h:loopN c p bigN σ = some (σ₁,.nxt)) (k:q σ₁ = O):sCons (sWhile c p) q σ = O:=by show sbind (loopN _ _ _ _) _ = _;rw [h];exact k
theorem c_end (h:σ = σ₁):sNil σ = some (σ₁,.nxt):=by rw [h];rfl
theorem setV_ow {vs:List (Option PyData)} {j:Nat} {acc:List PyData} (hj:j ≠ i) (h:lf d = true):setV i d ⟨vs,some (j,acc)⟩ = some ⟨vs.set i (some d),some (j,acc)⟩:=by
  show (if j = i ∨ lf d = false then none else _) = _
  rw [if_neg (by rw [h];simp [hj])]
theorem setVz2 {j:Nat} {vs:List (Option PyData)}:setVs [i,j] [a,b] ⟨vs,none⟩ = some ⟨(vs.set i (some a)).set j (some b),none⟩:=rfl
theorem setVz2_own {i' j:Nat} {vs:List (Option PyData)} {acc:List PyData} (hj:j ≠ i) (hj':j ≠ i') (h:lf a = true) (h':lf b = true):setVs [i,i'] [a,b] ⟨vs,some (j,acc)⟩ = some ⟨(vs.set i (some a)).set i' (some b),some (j,acc)⟩:=by
  show obind (setV i a _) _ = _;rw [setV_ow hj h];show obind (setV i' b _) _ = _;rw [setV_ow hj' h'];rfl
theorem c_appo {vs:List (Option PyData)} {acc:List PyData} (h:f ⟨vs,some (i,acc)⟩ = ret' d) (hl:acc.length ≤ 1000000) (hd:lf d = true) (k:q ⟨vs,some (i,acc ++ [d])⟩ = O):sCons (appV i f) q ⟨vs,some (i,acc)⟩ = O:=by
  have e:appV i f ⟨vs,some (i,acc)⟩ = some (⟨vs,some (i,acc ++ [d])⟩,.nxt):=by
    show (if i = i∧acc.length ≤ 1000000 then ebind _ _ _ else none) = _
    rw [if_pos ⟨rfl,hl⟩,h,ebind_ret,hd];rfl
  show sbind _ _ = _;rw [e];exact k
theorem c_swp {n1 n2:Str} {j:Nat} {vs:List (Option PyData)} (h:f ⟨vs,none⟩ = ret' (.tuple [a,b])) (k:q ⟨(vs.set j (some b)).set i (some a),none⟩ = O):sCons (sSwp [(n1,i),(n2,j)] f) q ⟨vs,none⟩ = O:=by
  show sbind (ebind _ _ _) _ = _;rw [h];exact k
theorem v_new (h:fa σ = ret' ds):dNew fa σ = ret' (.list ds):=by show bnd _ _ = _;rw [h];rfl
theorem v_comp {o:PyData→Option PyData} (h:f σ = ret' d) (e:compD o d = some ds):nComp o f σ = ret' ds:=by show bnd _ _ = _;rw [h];show lft _ = _;rw [e];rfl
theorem m_ret (h:p σ = some (σ₁,.ret d)):(p σ).map outR = ret' d:=by rw [h];rfl
theorem m_exc (h:p σ = some (σ₁,.exc t)):(p σ).map outR = some (.error t):=by rw [h];rfl
theorem lit_eq {a:PyData} {x:List Nat} {c:Nat} (h:a = Sx x) (e:([c] == x) = y):eqD (Sx [c]) a = some y:=by rw [h,eqD_mk,e]
end
end Mine
namespace Mine.Tq
open Lean
def lf (S:Syntax):Syntax :=
  fs [rd as,rd rf,dn (ap "setV_none setVz2"),dn (pr [ap "add_of sub_of ord_of lenD_mk",rd as]),pr [sh "addD addT loopN",as],
    pr [sh "getV dK aNil tAnd0 tOr0 pNo subD negD strOnly tupD listD addD itemD",rf],th (ap "setV_ow setVz2_own") (fs [rd as,rf,q "decide" [a "decide",n "Lean.Parser.Tactic.optConfig" [n "null" []]],dn S]),pr [sh "setV setVs",rf],dn S]
def ex (O L:Syntax):Syntax :=
  fs [th (ap "v_aCons v_call v_idx v_bin v_on v_cut v_pOf v_lst v_new v_comp v_tup v_cmp v_meth t_cmp t_plain t_chainI t_notT t_notF") (dn O),th (ap "t_andF t_orT v_ifT v_andF v_orT") (dn O),th (ap "t_andT t_orF v_ifF v_andT v_orF") (dn O),L]
def st (O L S:Syntax):Syntax :=
  fs [ap "c_nil c_asc",th (ap "c_raise c_brk") rf,pr [ap "c_iteT",dn O],pr [ap "c_iteF",dn O],pr [ap "c_asg c_unp",dn O,dn L],pr [ap "c_asgE c_unpE c_ret c_retE",dn O,dn rf],pr [ap "c_own",dn rf,dn (fs [rd as,rf])],
    pr [ap "c_aug",dn rf,dn O,dn L,dn L],pr [ap "c_swp",dn O],pr [ap "c_whl",dn L],pr [ap "c_appo",dn O,dn (fs [rd as,dn S]),dn (fs [rd as,rf,dn S])],rf]
end Mine.Tq
open Lean in
local macro_rules
  | `(tactic| simp! only [$a,*] at *)=>do return Mine.Tq.lf (← `(tactic| simp [$a,*]))
  | `(tactic| simp! only [$a,*])=>do return Mine.Tq.ex (← `(tactic| simp! only [$a,*])) (← `(tactic| simp! only [$a,*] at *))
  | `(tactic| simp! [$a,*])=>do `(tactic| repeat $(⟨Mine.Tq.st (← `(tactic| simp! only [$a,*])) (← `(tactic| simp! only [$a,*] at *)) (← `(tactic| simp [$a,*]))⟩):tactic)
section
set_option tactic.hygienic false
open PySem PySem.W PyProof.Rows PySem.Spec PySem.Calls PySem.Builtin PySem.Builtin.Str
namespace Mine
theorem btw_int (x y c:Nat) (a b:Int) (ha:a = x) (hb:b = y):decide (a ≤ c∧(c:Int) ≤ b) = decide (x ≤ c∧c ≤ y):=by subst ha hb;rw [decide_eq_decide,Int.ofNat_le,Int.ofNat_le]
theorem digit_ok {n:Nat} (hn:4 ≤ n) (c:Nat):Φ n "digit" [Sx [c]] = ret' (.int (digitv c)):=by
  obtain ⟨n,rfl⟩:∃ k,n = k + 1:=⟨n - 1,by lia⟩
  rw [phi_digit (by lia)]
  have h1:lenD (Sx [c]) = some (.int 1):=lenD_mk (by simp [Small])
  have h2:ordF (Sx [c]) = some (.int (c:Int)):=by simp [ordF,Sx,mk,Str.length]
  have h3:neD (.int 1) (.int 1) = some false:=rfl
  have k1:=btw_int 48 57 c 48 57 rfl rfl
  have k2:=btw_int 97 122 c 97 122 rfl rfl
  have k3:=btw_int 65 90 c 65 90 rfl rfl
  unfold digitv
  by_cases a:48 ≤ c∧c ≤ 57
  · rw [if_pos a]
    rw [decide_eq_true a] at k1
    (apply m_ret;delta den_digit;simp! [])
  · rw [if_neg a]
    rw [decide_eq_false a] at k1
    by_cases b:97 ≤ c∧c ≤ 122
    · rw [if_pos b]
      rw [decide_eq_true b] at k2
      (apply m_ret;delta den_digit;simp! [])
    · rw [if_neg b]
      rw [decide_eq_false b] at k2
      by_cases k:65 ≤ c∧c ≤ 90
      · rw [if_pos k]
        rw [decide_eq_true k] at k3
        (apply m_ret;delta den_digit;simp! [])
      · rw [if_neg k]
        rw [decide_eq_false k] at k3
        (apply m_ret;delta den_digit;simp! [])
section
variable {c:Store→Res Bool} {f:Store→Option Out} {n:Nat} {σ σ':Store}
theorem loop_end (hc:c σ = ret' false):loopN c f (n + 1) σ = some (σ,.nxt):=by
  show ebind _ _ _ = _
  rw [hc];rfl
theorem loop_nxt (hc:c σ = ret' true) (hf:f σ = some (σ',.nxt)):loopN c f (n + 1) σ = loopN c f n σ':=by
  show ebind _ _ _ = _
  rw [hc,ebind_ret,if_pos rfl,hf]
theorem loop_brk (hc:c σ = ret' true) (hf:f σ = some (σ',.brk)):loopN c f (n + 1) σ = some (σ',.nxt):=by
  show ebind _ _ _ = _
  rw [hc,ebind_ret,if_pos rfl,hf]
theorem loop_ret {d:PyData} (hc:c σ = ret' true) (hf:f σ = some (σ',.ret d)):loopN c f (n + 1) σ = some (σ',.ret d):=by
  show ebind _ _ _ = _
  rw [hc,ebind_ret,if_pos rfl,hf]
theorem loop_exc {t:Str} (hc:c σ = ret' true) (hf:f σ = some (σ',.exc t)):loopN c f (n + 1) σ = some (σ',.exc t):=by
  show ebind _ _ _ = _
  rw [hc,ebind_ret,if_pos rfl,hf]
end
theorem bigN_lt {s:List Nat} {t:List Nat} (h:s <:+ t) (ht:Small t):s.length < bigN:=by
  have:=suf_len h;unfold Small at ht;unfold bigN;lia
theorem skipGaps_cons (c:Nat) (s:List Nat):skipGaps (c :: s) = if isGap c then skipGaps s else match s with
    | []=>[c]
    | d :: s'=>if c = 92∧d = 10 then skipGaps s' else c :: d :: s':=by rw [skipGaps.eq_def] <;> rfl
noncomputable def LP (c:Store→Res Bool) (f K:Store→Option Out) (N:Nat) (σ:Store):Res PyData:=(sbind (loopN c f N σ) K).map outR
section
variable {c:Store→Res Bool} {f K:Store→Option Out} {N:Nat} {σ σ':Store} {d:PyData} {r:Res PyData}
theorem LP_nxt (hc:c σ = ret' true) (hf:f σ = some (σ',.nxt)) (h:LP c f K N σ' = r):LP c f K (N + 1) σ = r:=by rw [← h];unfold LP;rw [loop_nxt hc hf]
theorem LP_ret (hc:c σ = ret' true) (hf:f σ = some (σ',.ret d)):LP c f K (N + 1) σ = ret' d:=by unfold LP;rw [loop_ret hc hf];rfl
theorem LP_end (hc:c σ = ret' false) (h:(K σ).map outR = r):LP c f K (N + 1) σ = r:=by rw [← h];unfold LP;rw [loop_end hc];rfl
end
theorem nrec {P:Nat→List Nat→Prop} (h:∀ N,(∀ s',s'.length < N→P N s')→∀ s,s.length < N + 1→P (N + 1) s):∀ N s,s.length < N→P N s:=by
  intro N
  induction N with
  | zero=>exact fun s hl=>absurd hl (Nat.not_lt_zero _)
  | succ N ih=>exact h N ih
noncomputable def stG (t:List Nat) (p:Int):Store:=⟨[some (Sx t),some (.int p)],none⟩
theorem beq2_of {c d:Nat} (h:¬(c = 92∧d = 10)):([c,d] == [92,10]) = false:=beq_false_of_ne fun q=>by cases q;exact h ⟨rfl,rfl⟩
theorem beq1_of {c d:Nat} (h:c ≠ d):([c] == [d]) = false:=beq_false_of_ne fun q=>by cases q;exact h rfl
theorem lt_up {s:List Nat} {c N:Nat} (h:(c :: s).length < N + 1):s.length < N:=Nat.lt_of_succ_lt_succ h
theorem lt_up2 {s:List Nat} {c d N:Nat} (h:(c :: d :: s).length < N + 1):s.length < N:=Nat.lt_of_succ_lt (Nat.lt_of_succ_lt_succ h)
theorem pos_ltt (t s:List Nat) (c:Nat):decide (pos t (c :: s) < (t.length:Int)) = true:=pos_lt t (c :: s)
section
variable {n:Nat} {t g:List Nat} {p q:Int} {c:Nat}
theorem sg_1 (hc:Φ n "is_gap" [Sx [c]] = ret' (.bool true)) (e2:itemD (Sx t) (.int p) = some (Sx [c])) (e4:p + 1 = q):lb_skip_gaps_1 (Φ n) (stG t p) = some (stG t q,.nxt):=by delta lb_skip_gaps_1 stG;simp! [e2,hc,e4]
theorem sg_2 (hc:Φ n "is_gap" [Sx [c]] = ret' (.bool false)) (e2:itemD (Sx t) (.int p) = some (Sx [c])) (e3:cutD (Sx t) (some p) (some (p + 2)) = some (Sx [92,10])) (e4:p + 2 = q):lb_skip_gaps_1 (Φ n) (stG t p) = some (stG t q,.nxt):=by subst e4;delta lb_skip_gaps_1 stG;simp! [e2,hc,e3]
theorem sg_3 (hc:Φ n "is_gap" [Sx [c]] = ret' (.bool false)) (e2:itemD (Sx t) (.int p) = some (Sx [c])) (e3:cutD (Sx t) (some p) (some (p + 2)) = some (Sx g)) (hq:(g == [92,10]) = false):lb_skip_gaps_1 (Φ n) (stG t p) = some (stG t p,.ret (.int p)):=by delta lb_skip_gaps_1 stG;simp! [e2,hc,e3,hq]
end
theorem skipGaps_t {c:Nat} {s:List Nat} (h:isGap c = true):skipGaps (c :: s) = skipGaps s:=(skipGaps_cons c s).trans (if_pos h)
theorem skipGaps_1 {c:Nat} (h:isGap c = false):skipGaps [c] = [c]:=(skipGaps_cons c []).trans (if_neg (by rw [h];exact Bool.false_ne_true))
theorem skipGaps_2 (s:List Nat):skipGaps (92 :: 10 :: s) = skipGaps s:=(skipGaps_cons 92 (10 :: s)).trans rfl
theorem skipGaps_3 {c d:Nat} {s:List Nat} (h:isGap c = false) (k:¬(c = 92∧d = 10)):skipGaps (c :: d :: s) = c :: d :: s:=(skipGaps_cons c (d :: s)).trans ((if_neg (by rw [h];exact Bool.false_ne_true)).trans (if_neg k))
theorem skip_gaps_loop {n:Nat} (hn:4 ≤ n) {t:List Nat} (ht:Small t):∀ (N:Nat) (s:List Nat),s.length < N→s <:+ t→LP lc_skip_gaps_1 (lb_skip_gaps_1 (Φ n)) (sCons (sRet (getV 1)) sNil) N (stG t (pos t s)) = ret' (.int (pos t (skipGaps s))) :=
  nrec fun N ih s hl h=>by
    cases s with
    | nil=>exact LP_end (by delta lc_skip_gaps_1 stG;simp! only [lenD_mk ht,pos_nil]) rfl
    | cons c s =>
      have hs:=suf_tail h
      have hc:=is_gap_ok hn c
      have e2:=item_at h ht
      have c1:lc_skip_gaps_1 (stG t (pos t (c :: s))) = ret' true:=by delta lc_skip_gaps_1 stG;simp! only [lenD_mk ht,pos_ltt t s c]
      cases hg:isGap c with
      | true =>
        rw [hg] at hc
        rw [skipGaps_t hg]
        exact LP_nxt c1 (sg_1 hc e2 (pos_cons t c s)) (ih s (lt_up hl) hs)
      | false =>
        rw [hg] at hc
        have e3:=cut2 h ht
        cases s with
        | nil=>rw [skipGaps_1 hg];exact LP_ret c1 (sg_3 hc e2 e3 (beq_false_of_ne fun q=>by cases q))
        | cons d s' =>
          by_cases hb:c = 92∧d = 10
          · obtain ⟨rfl,rfl⟩:=hb
            rw [skipGaps_2]
            exact LP_nxt c1 (sg_2 hc e2 e3 (pos_cons2 t 92 10 s')) (ih s' (lt_up2 hl) (suf_tail hs))
          · rw [skipGaps_3 hg hb];exact LP_ret c1 (sg_3 hc e2 e3 (beq2_of hb))
theorem skip_gaps_ok {n:Nat} (hn:5 ≤ n) {t s:List Nat} (ht:Small t) (h:s <:+ t):Φ n "skip_gaps" [Sx t,.int (pos t s)] = ret' (.int (pos t (skipGaps s))):=by
  obtain ⟨n,rfl⟩:∃ k,n = k + 1:=⟨n - 1,by lia⟩
  rw [phi_skip_gaps (by lia)]
  exact skip_gaps_loop (by lia) ht bigN s (bigN_lt h ht) h
theorem comment_cons (c:Nat) (s:List Nat):comment (c :: s) = if c = 92 then (match s with
    | []=>[]
    | _ :: s'=>comment s') else if c = 10 then s else comment s:=by rw [comment.eq_def] <;> rfl
noncomputable def stC (t:List Nat) (p:Int):Store:=⟨[some (Sx t),some (.int p),some (.int t.length)],none⟩
section
variable {Ψ:Oracle} {t:List Nat} {p q:Int} {c:Nat}
theorem cb_1 (e2:itemD (Sx t) (.int p) = some (Sx [92])) (e4:p + 2 = q):lb_comment_behind_1 Ψ (stC t p) = some (stC t q,.nxt):=by delta lb_comment_behind_1 stC;simp! [e2,e4]
theorem cb_2 (e2:itemD (Sx t) (.int p) = some (Sx [10])) (e4:p + 1 = q):lb_comment_behind_1 Ψ (stC t p) = some (stC t p,.ret (.int q)):=by delta lb_comment_behind_1 stC;simp! [e2,e4]
theorem cb_3 (e2:itemD (Sx t) (.int p) = some (Sx [c])) (hb:([c] == [92]) = false) (hm:([c] == [10]) = false) (e4:p + 1 = q):lb_comment_behind_1 Ψ (stC t p) = some (stC t q,.nxt):=by delta lb_comment_behind_1 stC;simp! [e2,e4,hb,hm]
end
theorem comment_loop {Ψ:Oracle} {t:List Nat} (ht:Small t):∀ (N:Nat) (s:List Nat),s.length < N→∀ (k:Int),s <:+ t→(k = pos t s ∨ (s = []∧k = t.length + 1)) →
    LP lc_comment_behind_1 (lb_comment_behind_1 Ψ) (sCons (sRet (getV 2)) sNil) N (stC t k) = ret' (.int (pos t (comment s))) :=
  nrec fun N ih s hl k h hk=>by
    cases s with
    | nil =>
      have:decide (k < (t.length:Int)) = false:=by rw [pos_nil] at hk;simp;lia
      exact LP_end (by delta lc_comment_behind_1 stC;simp! only [this]) (by show ret' (PyData.int t.length) = ret' (PyData.int (pos t []));rw [pos_nil])
    | cons c s =>
      have hs:=suf_tail h
      have e2:=item_at h ht
      obtain rfl:k = pos t (c :: s):=by rcases hk with rfl | ⟨q,_⟩;rfl;cases q
      have c1:lc_comment_behind_1 (stC t (pos t (c :: s))) = ret' true:=by delta lc_comment_behind_1 stC;simp! only [pos_ltt t s c]
      have hB:=comment_cons c s
      by_cases hb:c = 92
      · subst hb
        cases s with
        | nil=>exact LP_nxt c1 (cb_1 e2 rfl) (ih [] (lt_up hl) _ List.nil_suffix (.inr ⟨rfl,by unfold pos;simp;lia⟩))
        | cons d s'=>rw [hB,if_pos rfl];exact LP_nxt c1 (cb_1 e2 (pos_cons2 t 92 d s')) (ih s' (lt_up2 hl) _ (suf_tail hs) (.inl rfl))
      · rw [if_neg hb] at hB
        by_cases hm:c = 10
        · subst hm
          rw [hB,if_pos rfl]
          exact LP_ret c1 (cb_2 e2 (pos_cons t 10 s))
        · rw [hB,if_neg hm];exact LP_nxt c1 (cb_3 e2 (beq1_of hb) (beq1_of hm) (pos_cons t c s)) (ih s (lt_up hl) _ hs (.inl rfl))
theorem comment_behind_ok {n:Nat} (hn:4 ≤ n) {t s:List Nat} (ht:Small t) (h:s <:+ t):Φ n "comment_behind" [Sx t,.int (pos t s)] = ret' (.int (pos t (comment s))):=by
  obtain ⟨n,rfl⟩:∃ k,n = k + 1:=⟨n - 1,by lia⟩
  rw [phi_comment_behind (by lia)]
  have:=comment_loop (Ψ:=Φ n) ht bigN s (bigN_lt h ht) _ h (.inl rfl)
  simpa [den_comment_behind,lenD_mk ht,sWhile,LP,stC] using this
end Mine
end
section
set_option tactic.hygienic false
open PySem
namespace Mine
theorem skipGaps_eq (c:Nat) (s:List Nat):skipGaps (c :: s) = if isGap c then skipGaps s else match s with
    | []=>[c]
    | d :: s'=>if c = 92∧d = 10 then skipGaps s' else c :: d :: s':=by rw [skipGaps.eq_def] <;> rfl
theorem skipCmd_f (c:Nat) (s:List Nat):skipCmd false (c :: s) = if isGap c || c == 10 || c == 59 then skipCmd false s else if c = 35 then skipCmd true s else match s with
    | []=>[c]
    | d :: s'=>if c = 92∧d = 10 then skipCmd false s' else c :: d :: s':=by rw [skipCmd.eq_def] <;> rfl
theorem skipCmd_t (c:Nat) (s:List Nat):skipCmd true (c :: s) = if c = 92 then (match s with
    | []=>[]
    | _ :: s'=>skipCmd true s') else if c = 10 then skipCmd false s else skipCmd true s:=by rw [skipCmd.eq_def] <;> rfl
theorem comment_eq (c:Nat) (s:List Nat):comment (c :: s) = if c = 92 then (match s with
    | []=>[]
    | _ :: s'=>comment s') else if c = 10 then s else comment s:=by rw [comment.eq_def] <;> rfl
@[simp] theorem skipGaps_nil:skipGaps [] = []:=by rw [skipGaps.eq_def]
@[simp] theorem skipCmd_nil (b:Bool):skipCmd b [] = []:=by rw [skipCmd.eq_def]
@[simp] theorem comment_nil:comment [] = []:=by rw [comment.eq_def]
noncomputable def NoGap:List Nat→Prop
  | []=>True
  | c :: s=>isGap c = false∧∀ s',¬ (c = 92∧s = 10 :: s')
theorem skipGaps_noGap:∀ s,NoGap (skipGaps s)
  | []=>by rw [skipGaps_nil];trivial
  | c :: s=>by
    rw [skipGaps_eq]
    split
    · exact skipGaps_noGap s
    · rename_i hg
      cases s with
      | nil=>exact ⟨by simpa using hg,fun s' h=>by cases h.2⟩
      | cons d s' =>
        dsimp only
        split
        · exact skipGaps_noGap s'
        · rename_i hn
          exact ⟨by simpa using hg,fun s'' h=>by obtain ⟨h1,h2⟩:=h;cases h2;exact hn ⟨h1,rfl⟩⟩
theorem skipGaps_of {s:List Nat} (h:NoGap s):skipGaps s = s:=by
  cases s with
  | nil=>exact skipGaps_nil
  | cons c s =>
    rw [skipGaps_eq,h.1]
    cases s with
    | nil=>rfl
    | cons d s' =>
      dsimp only
      split
      · rename_i q;cases q
      · split
        · rename_i q;obtain ⟨q1,q2⟩:=q;subst q2;exact absurd ⟨q1,rfl⟩ (h.2 s')
        · rfl
theorem skipGaps_idem (s:List Nat):skipGaps (skipGaps s) = skipGaps s:=skipGaps_of (skipGaps_noGap s)
theorem skipCmd_gaps:∀ s,skipCmd false (skipGaps s) = skipCmd false s
  | []=>by rw [skipGaps_nil]
  | c :: s=>by
    rw [skipGaps_eq]
    split
    · rename_i hg
      rw [skipCmd_gaps s,skipCmd_f,hg];simp
    · rename_i hg
      cases s with
      | nil=>rfl
      | cons d s' =>
        dsimp only
        split
        · rename_i hq
          obtain ⟨rfl,rfl⟩:=hq
          rw [skipCmd_gaps s',skipCmd_f]
          simp [isGap]
        · rfl
theorem skipCmd_comment:∀ s,skipCmd true s = skipCmd false (comment s)
  | []=>by simp
  | c :: s=>by
    rw [skipCmd_t,comment_eq]
    split
    · cases s with
      | nil=>simp
      | cons d s'=>exact skipCmd_comment s'
    · split
      · rfl
      · exact skipCmd_comment s
noncomputable def CmdAt:List Nat→Prop
  | []=>True
  | c :: s=>isGap c = false∧c ≠ 10∧c ≠ 59∧c ≠ 35∧∀ s',¬ (c = 92∧s = 10 :: s')
theorem skipCmd_at:∀ b s,CmdAt (skipCmd b s)
  | _,[]=>by rw [skipCmd_nil];trivial
  | false,c :: s=>by
    rw [skipCmd_f]
    split
    · exact skipCmd_at false s
    · rename_i hg
      have hg':isGap c = false∧c ≠ 10∧c ≠ 59:=by
        simp only [Bool.or_eq_true,beq_iff_eq,not_or] at hg
        exact ⟨by simpa using hg.1.1,hg.1.2,hg.2⟩
      split
      · exact skipCmd_at true s
      · rename_i h35
        cases s with
        | nil=>exact ⟨hg'.1,hg'.2.1,hg'.2.2,h35,fun s' h=>by cases h.2⟩
        | cons d s' =>
          dsimp only
          split
          · exact skipCmd_at false s'
          · rename_i hn
            exact ⟨hg'.1,hg'.2.1,hg'.2.2,h35,fun s'' h=>by obtain ⟨h1,h2⟩:=h;cases h2;exact hn ⟨h1,rfl⟩⟩
  | true,c :: s=>by
    rw [skipCmd_t]
    split
    · cases s with
      | nil=>trivial
      | cons d s'=>exact skipCmd_at true s'
    · split
      · exact skipCmd_at false s
      · exact skipCmd_at true s
theorem skipCmd_of {s:List Nat} (h:CmdAt s):skipCmd false s = s:=by
  cases s with
  | nil=>exact skipCmd_nil _
  | cons c s =>
    obtain ⟨h1,h2,h3,h4,h5⟩:=h
    rw [skipCmd_f,h1]
    have e:(false || c == 10 || c == 59) = false:=by simp [h2,h3]
    rw [e]
    simp only [Bool.false_eq_true,if_false,h4]
    cases s with
    | nil=>rfl
    | cons d s' =>
      dsimp only
      split
      · rename_i q;obtain ⟨q1,q2⟩:=q;subst q2;exact absurd ⟨q1,rfl⟩ (h5 s')
      · rfl
theorem CmdAt.noGap {s:List Nat} (h:CmdAt s):NoGap s:=by
  cases s with
  | nil=>trivial
  | cons c s=>exact ⟨h.1,h.2.2.2.2⟩
end Mine
end
section
set_option tactic.hygienic false
open PySem PySem.W PyProof.Rows PySem.Spec PySem.Calls PySem.Builtin PySem.Builtin.Str
namespace Mine
theorem nilnot3:inD (Sx []) (.tuple [Sx [10],Sx [59],Sx [35]]) = some false:=(strs_any (k:=[[10],[59],[35]]) rfl).trans (by simp)
theorem one3 (c:Nat):inD (Sx [c]) (.tuple [Sx [10],Sx [59],Sx [35]]) = some (decide (c = 10 ∨ c = 59 ∨ c = 35)):=(strs_any (k:=[[10],[59],[35]]) rfl).trans (by simp)
theorem stc_loop {n:Nat} (hn:5 ≤ n) {t:List Nat} (ht:Small t):∀ (N:Nat) (s:List Nat),s <:+ t→s.length < N→NoGap s →
    (sbind (loopN lc_skip_to_command_1 (lb_skip_to_command_1 (Φ n)) N ⟨[some (Sx t),some (.int (pos t s))],none⟩) (sCons (sRet (getV 1)) sNil)).map outR = ret' (.int (pos t (skipCmd false s)))
  | 0,s,h,hl,_=>absurd hl (Nat.not_lt_zero _)
  | N + 1,[],h,hl,_=>by
    have e3:=cut1 h ht
    rw [loop_end (by (delta lc_skip_to_command_1;simp! only [e3,tupD,nilnot3]))]
    simp
  | N + 1,c :: s,h,hl,hg=>by
    have hs:=suf_tail h
    have e2:=item_at h ht
    have e3:=cut1 h ht
    have e4:=pos_cons t c s
    have o3:=one3 c
    by_cases hc:c = 10 ∨ c = 59 ∨ c = 35
    · have c1:lc_skip_to_command_1 ⟨[some (Sx t),some (.int (pos t (c :: s)))],none⟩ = ret' true:=by (delta lc_skip_to_command_1;simp! only [e3,tupD,o3,hc])
      by_cases h35:c = 35
      · subst h35
        have hcm:=comment_behind_ok (n:=n) (by lia) ht h
        have e6:comment (35 :: s) = comment s:=by rw [comment_eq];simp
        rw [e6] at hcm
        have hcs:=(comment_suf s).trans hs
        have hsg:=skip_gaps_ok hn ht hcs
        have b1:lb_skip_to_command_1 (Φ n) ⟨[some (Sx t),some (.int (pos t (35 :: s)))],none⟩ = some (⟨[some (Sx t),some (.int (pos t (skipGaps (comment s))))],none⟩,.nxt):=by
          (delta lb_skip_to_command_1;simp! [e2,hcm,hsg])
        rw [loop_nxt c1 b1]
        have:=stc_loop hn ht N (skipGaps (comment s)) ((skipGaps_suf _).trans hcs) (by have:=(skipGaps_suf (comment s)).length_le;have:=(comment_suf s).length_le;simp at hl;lia) (skipGaps_noGap _)
        rw [this,skipCmd_gaps,← skipCmd_comment]
        have e7:skipCmd false (35 :: s) = skipCmd true s:=by rw [skipCmd_f];simp [isGap]
        rw [e7]
      · have hsg:=skip_gaps_ok hn ht hs
        have b1:lb_skip_to_command_1 (Φ n) ⟨[some (Sx t),some (.int (pos t (c :: s)))],none⟩ = some (⟨[some (Sx t),some (.int (pos t (skipGaps s)))],none⟩,.nxt):=by
          (delta lb_skip_to_command_1;simp! [e2,e4,h35,hsg])
        rw [loop_nxt c1 b1]
        have:=stc_loop hn ht N (skipGaps s) ((skipGaps_suf _).trans hs) (by have:=(skipGaps_suf s).length_le;simp at hl;lia) (skipGaps_noGap _)
        rw [this,skipCmd_gaps]
        have e7:skipCmd false (c :: s) = skipCmd false s:=by
          rw [skipCmd_f,if_pos]
          rcases hc with rfl | rfl | rfl
          · simp
          · simp
          · exact absurd rfl h35
        rw [e7]
    · rw [loop_end (by (delta lc_skip_to_command_1;simp! only [e3,tupD,o3,hc]))]
      have e7:skipCmd false (c :: s) = c :: s:=skipCmd_of ⟨hg.1,fun q=>hc (.inl q),fun q=>hc (.inr (.inl q)),fun q=>hc (.inr (.inr q)),hg.2⟩
      rw [e7];simp
theorem skip_to_command_ok {n:Nat} (hn:6 ≤ n) {t s:List Nat} (ht:Small t) (h:s <:+ t):Φ n "skip_to_command" [Sx t,.int (pos t s)] = ret' (.int (pos t (skipCmd false s))):=by
  obtain ⟨n,rfl⟩:∃ k,n = k + 1:=⟨n - 1,by lia⟩
  rw [phi_skip_to_command (by lia)]
  have hsg:=skip_gaps_ok (n:=n) (by lia) ht h
  have:=stc_loop (n:=n) (by lia) ht bigN (skipGaps s) ((skipGaps_suf s).trans h) (bigN_lt ((skipGaps_suf s).trans h) ht) (skipGaps_noGap s)
  rw [skipCmd_gaps] at this
  simpa [den_skip_to_command,hsg,sWhile] using this
theorem nameR_eq (b:Bool) (c:Nat) (s:List Nat):nameR b (c :: s) = if c = 58 then (if b then nameR true s else match s with
    | []=>[c]
    | d :: s'=>if d = 58 then nameR true s' else c :: d :: s') else if c = 95 ∨ 0 ≤ digitv c then nameR false s else c :: s:=by rw [nameR.eq_def] <;> rfl
@[simp] theorem nameR_nil (b:Bool):nameR b [] = []:=by rw [nameR.eq_def]
noncomputable def colons:List Nat→List Nat
  | []=>[]
  | c :: s=>if c = 58 then colons s else c :: s
theorem colons_suf:∀ s,colons s <:+ s
  | []=>List.suffix_refl _
  | c :: s=>by
    unfold colons
    split
    · exact (colons_suf s).trans (List.suffix_cons ..)
    · exact List.suffix_refl _
theorem nameR_colons:∀ s,nameR true s = nameR false (colons s)
  | []=>by simp [colons]
  | c :: s=>by
    rw [nameR_eq]
    unfold colons
    by_cases hc:c = 58
    · rw [if_pos hc,if_pos rfl,if_pos hc];exact nameR_colons s
    · rw [if_neg hc,if_neg hc,nameR_eq,if_neg hc]
theorem rn_loop2 {Ψ:Oracle} {t:List Nat} (ht:Small t):∀ (N:Nat) (s:List Nat),s <:+ t→s.length < N →
    loopN lc_read_name_1 (lb_read_name_1 Ψ) N ⟨[some (Sx t),some (.int (pos t s))],none⟩ = some (⟨[some (Sx t),some (.int (pos t (colons s)))],none⟩,.nxt)
  | 0,s,h,hl=>absurd hl (Nat.not_lt_zero _)
  | N + 1,[],h,hl=>by
    have e3:=cut1 h ht
    rw [loop_end (by (delta lc_read_name_1;simp! only [e3]))];rfl
  | N + 1,c :: s,h,hl=>by
    have e3:=cut1 h ht
    unfold colons
    by_cases hc:c = 58
    · subst hc
      have e4:=pos_cons t 58 s
      rw [loop_nxt (σ':=⟨[some (Sx t),some (.int (pos t s))],none⟩) (by (delta lc_read_name_1;simp! only [e3])) (by (delta lb_read_name_1;simp! [pos_cons])),if_pos rfl]
      exact rn_loop2 ht N s (suf_tail h) (by simp at hl;lia)
    · have q:(c == 58) = false:=by simpa using hc
      rw [loop_end (by (delta lc_read_name_1;simp! only [e3,q])),if_neg hc]
theorem rn_loop {n:Nat} (hn:4 ≤ n) {t:List Nat} (ht:Small t):∀ (N:Nat) (s:List Nat),s <:+ t→s.length < N →
    (sbind (loopN lc_read_name_2 (lb_read_name_2 (Φ n)) N ⟨[some (Sx t),some (.int (pos t s))],none⟩) (sCons (sRet (getV 1)) sNil)).map outR = ret' (.int (pos t (nameR false s)))
  | 0,s,h,hl=>absurd hl (Nat.not_lt_zero _)
  | N + 1,[],h,hl=>by
    rw [loop_end (by (delta lc_read_name_2;simp! only [lenD_mk ht,pos_nil]))]
    simp
  | N + 1,c :: s,h,hl=>by
    have hs:=suf_tail h
    have hd:=digit_ok hn c
    have e1:=pos_lt t (c :: s)
    have e2:=item_at h ht
    have e3:=cut2 h ht
    have e4:=pos_cons t c s
    simp only [List.isEmpty_cons,Bool.not_false] at e1
    have c1:lc_read_name_2 ⟨[some (Sx t),some (.int (pos t (c :: s)))],none⟩ = ret' true:=by (delta lc_read_name_2;simp! only [lenD_mk ht,e1])
    rw [nameR_eq]
    by_cases h58:c = 58
    · subst h58
      have d58:digitv 58 = -1:=by decide
      rw [if_pos rfl]
      simp only [Bool.false_eq_true,if_false]
      cases s with
      | nil =>
        rw [loop_ret (σ':=⟨[some (Sx t),some (.int (pos t [58]))],none⟩) (d:=.int (pos t [58])) c1 (by (delta lb_read_name_2;simp! [e2,e3,hd,d58]))]
        simp
      | cons d s' =>
        dsimp only
        by_cases hd58:d = 58
        · subst hd58
          have hs':=suf_tail hs
          have l2:=rn_loop2 (Ψ:=Φ n) ht bigN s' hs' (bigN_lt hs' ht)
          have e5:=pos_cons2 t 58 58 s'
          rw [e5] at e3
          rw [loop_nxt (σ':=⟨[some (Sx t),some (.int (pos t (colons s')))],none⟩) c1 (by (delta lb_read_name_2;simp! [e2,e3,hd,d58,e5,sWhile,l2])),if_pos rfl,nameR_colons]
          exact rn_loop hn ht N (colons s') ((colons_suf s').trans hs') (by have:=(colons_suf s').length_le;simp at hl;lia)
        · rw [if_neg hd58,loop_ret (σ':=⟨[some (Sx t),some (.int (pos t (58 :: d :: s')))],none⟩) (d:=.int (pos t (58 :: d :: s'))) c1 (by (delta lb_read_name_2;simp! [e2,e3,hd,d58,hd58]))]
          simp
    · rw [if_neg h58]
      by_cases hq:c = 95 ∨ 0 ≤ digitv c
      · rw [if_pos hq]
        have:lb_read_name_2 (Φ n) ⟨[some (Sx t),some (.int (pos t (c :: s)))],none⟩ = some (⟨[some (Sx t),some (.int (pos t s))],none⟩,.nxt):=by
          by_cases h95:c = 95
          · subst h95
            (delta lb_read_name_2;simp! [e2,e3,hd,e4])
          · have:=hq.resolve_left h95
            (delta lb_read_name_2;simp! [e2,e3,hd,h95,e4,this])
        rw [loop_nxt c1 this]
        exact rn_loop hn ht N s hs (by simp at hl;lia)
      · rw [if_neg hq]
        have q1:c ≠ 95:=fun q=>hq (.inl q)
        have q2:¬ 0 ≤ digitv c:=fun q=>hq (.inr q)
        rw [loop_ret (σ':=⟨[some (Sx t),some (.int (pos t (c :: s)))],none⟩) (d:=.int (pos t (c :: s))) c1 (by (delta lb_read_name_2;simp! [e2,e3,hd,q1,q2,h58]))]
        simp
theorem read_name_ok {n:Nat} (hn:5 ≤ n) {t s:List Nat} (ht:Small t) (h:s <:+ t):Φ n "read_name" [Sx t,.int (pos t s)] = ret' (.int (pos t (nameR false s))):=by
  obtain ⟨n,rfl⟩:∃ k,n = k + 1:=⟨n - 1,by lia⟩
  rw [phi_read_name (by lia)]
  exact rn_loop (by lia) ht bigN s h (bigN_lt h ht)
end Mine
end
section
set_option tactic.hygienic false
open PySem PySem.W PyProof.Rows PySem.Spec PySem.Calls PySem.Builtin PySem.Builtin.Str
namespace Mine
@[simp] theorem eqD_int (a b:Int):eqD (.int a) (.int b) = some (a == b):=rfl
theorem mulD_int {a b:Int} (h:0 ≤ a∧a ≤ 1000000∧0 ≤ b∧b ≤ 1000000):mulD (.int a) (.int b) = some (.int (a * b)):=by unfold mulD;dsimp only;rw [if_pos h]
theorem tupD_small {ds:List PyData} (h:ds.length ≤ 1000000):tupD ds = ret' (.tuple ds):=by unfold tupD;rw [if_pos h];rfl
@[simp] theorem tupD_0:tupD [] = ret' (.tuple []):=rfl
@[simp] theorem tupD_1 (a:PyData):tupD [a] = ret' (.tuple [a]):=rfl
@[simp] theorem tupD_2 (a b:PyData):tupD [a,b] = ret' (.tuple [a,b]):=rfl
@[simp] theorem tupD_3 (a b c:PyData):tupD [a,b,c] = ret' (.tuple [a,b,c]):=rfl
@[simp] theorem tupD_4 (a b c d:PyData):tupD [a,b,c,d] = ret' (.tuple [a,b,c,d]):=rfl
theorem digitv_le (c:Nat):digitv c ≤ 35:=by unfold digitv;split <;> (try split) <;> (try split) <;> lia
theorem hexv_bound:∀ k v s,0 ≤ v→v ≤ 1114111→0 ≤ (hexv k v s).1∧(hexv k v s).1 ≤ 1114111
  | 0,v,s,h0,h1=>⟨h0,h1⟩
  | _ + 1,v,[],h0,h1=>⟨h0,h1⟩
  | k + 1,v,c :: s,h0,h1=>by
    unfold hexv
    split
    · split
      · exact ⟨h0,h1⟩
      · rename_i hn
        exact hexv_bound k _ s (by lia) (by lia)
    · exact ⟨h0,h1⟩
theorem octv_bound:∀ k v s,0 ≤ v→v ≤ 255→0 ≤ (octv k v s).1∧(octv k v s).1 ≤ 255
  | 0,v,s,h0,h1=>⟨h0,h1⟩
  | _ + 1,v,[],h0,h1=>⟨h0,h1⟩
  | k + 1,v,c :: s,h0,h1=>by
    unfold octv
    split
    · split
      · exact ⟨h0,h1⟩
      · rename_i hn
        exact octv_bound k _ s (by lia) (by lia)
    · exact ⟨h0,h1⟩
theorem hex_loop {n:Nat} (hn:4 ≤ n) {t:List Nat} (ht:Small t) (a m:Int):∀ (N k:Nat) (v:Int) (s:List Nat) (x:Option PyData),s <:+ t→s.length < N→0 ≤ v→m = pos t s + k →
    ∃ x',loopN lc_hex_sign_1 (lb_hex_sign_1 (Φ n)) N ⟨[some (Sx t),some (.int a),some (.int m),some (.int (pos t s)),some (.int v),x],none⟩ = some (⟨[some (Sx t),some (.int a),some (.int m),some (.int (pos t (hexv k v s).2)),some (.int (hexv k v s).1),x'],none⟩,.nxt)
  | 0,k,v,s,x,h,hl,hv,hm=>absurd hl (Nat.not_lt_zero _)
  | N + 1,0,v,s,x,h,hl,hv,hm=>by
    have q:decide (pos t s < m) = false:=by simp;lia
    exact ⟨x,by rw [loop_end (by (delta lc_hex_sign_1;simp! only [q]))];rfl⟩
  | N + 1,k + 1,v,[],x,h,hl,hv,hm=>by
    have q:decide (pos t [] < m) = true:=by simp;lia
    have q2:decide (pos t [] < (t.length:Int)) = false:=by rw [pos_nil];simp
    exact ⟨x,by rw [loop_end (by (delta lc_hex_sign_1;simp! only [q,q2,lenD_mk ht]))];rfl⟩
  | N + 1,k + 1,v,c :: s,x,h,hl,hv,hm=>by
    have q:decide (pos t (c :: s) < m) = true:=by simp;lia
    have q2:=pos_lt t (c :: s)
    simp only [List.isEmpty_cons,Bool.not_false] at q2
    have hd:=digit_ok hn c
    have e2:=item_at h ht
    have e4:=pos_cons t c s
    unfold hexv
    by_cases hv2:v ≤ 69631
    · have c1:lc_hex_sign_1 ⟨[some (Sx t),some (.int a),some (.int m),some (.int (pos t (c :: s))),some (.int v),x],none⟩ = ret' true:=by (delta lc_hex_sign_1;simp! only [q,q2,lenD_mk ht,hv2])
      rw [if_pos hv2]
      by_cases hst:digitv c < 0 ∨ 15 < digitv c
      · have b1:lb_hex_sign_1 (Φ n) ⟨[some (Sx t),some (.int a),some (.int m),some (.int (pos t (c :: s))),some (.int v),x],none⟩ = some (⟨[some (Sx t),some (.int a),some (.int m),some (.int (pos t (c :: s))),some (.int v),some (.int (digitv c))],none⟩,.brk):=by
          by_cases h0:digitv c < 0
          · (delta lb_hex_sign_1;simp! [e2,hd,h0])
          · (delta lb_hex_sign_1;simp! [e2,hd,h0,hst.resolve_left h0])
        exact ⟨_,by rw [loop_brk c1 b1,if_pos hst]⟩
      · have h0:¬ digitv c < 0:=fun z=>hst (.inl z)
        have h1:¬ 15 < digitv c:=fun z=>hst (.inr z)
        have hm2:=mulD_int (a:=v) (b:=16) ⟨hv,by lia,by lia,by lia⟩
        have b1:lb_hex_sign_1 (Φ n) ⟨[some (Sx t),some (.int a),some (.int m),some (.int (pos t (c :: s))),some (.int v),x],none⟩ = some (⟨[some (Sx t),some (.int a),some (.int m),some (.int (pos t s)),some (.int (v * 16 + digitv c)),some (.int (digitv c))],none⟩,.nxt):=by
          (delta lb_hex_sign_1;simp! [e2,hd,h0,h1,hm2,e4])
        rw [loop_nxt c1 b1,if_neg hst]
        exact hex_loop hn ht a m N k _ s _ (suf_tail h) (by simp at hl;lia) (by lia) (by lia)
    · have c1:lc_hex_sign_1 ⟨[some (Sx t),some (.int a),some (.int m),some (.int (pos t (c :: s))),some (.int v),x],none⟩ = ret' false:=by (delta lc_hex_sign_1;simp! only [q,q2,lenD_mk ht,hv2])
      exact ⟨x,by rw [loop_end c1,if_neg hv2]⟩
theorem oct_loop {n:Nat} (hn:4 ≤ n) {t:List Nat} (ht:Small t) (a:Int):∀ (N k:Nat) (v:Int) (s:List Nat) (x:Option PyData),s <:+ t→s.length < N→0 ≤ v→a + 3 = pos t s + k →
    ∃ x',loopN lc_octal_sign_1 (lb_octal_sign_1 (Φ n)) N ⟨[some (Sx t),some (.int a),some (.int (pos t s)),some (.int v),x],none⟩ = some (⟨[some (Sx t),some (.int a),some (.int (pos t (octv k v s).2)),some (.int (octv k v s).1),x'],none⟩,.nxt)
  | 0,k,v,s,x,h,hl,hv,hm=>absurd hl (Nat.not_lt_zero _)
  | N + 1,0,v,s,x,h,hl,hv,hm=>by
    have q:decide (pos t s < a + 3) = false:=by simp;lia
    exact ⟨x,by rw [loop_end (by (delta lc_octal_sign_1;simp! only [q]))];rfl⟩
  | N + 1,k + 1,v,[],x,h,hl,hv,hm=>by
    have q:decide (pos t [] < a + 3) = true:=by simp;lia
    have q2:decide (pos t [] < (t.length:Int)) = false:=by rw [pos_nil];simp
    exact ⟨x,by rw [loop_end (by (delta lc_octal_sign_1;simp! only [q,q2,lenD_mk ht]))];rfl⟩
  | N + 1,k + 1,v,c :: s,x,h,hl,hv,hm=>by
    have q:decide (pos t (c :: s) < a + 3) = true:=by simp;lia
    have q2:=pos_lt t (c :: s)
    simp only [List.isEmpty_cons,Bool.not_false] at q2
    have hd:=digit_ok hn c
    have e2:=item_at h ht
    have e4:=pos_cons t c s
    unfold octv
    by_cases hv2:v < 32
    · have c1:lc_octal_sign_1 ⟨[some (Sx t),some (.int a),some (.int (pos t (c :: s))),some (.int v),x],none⟩ = ret' true:=by (delta lc_octal_sign_1;simp! only [q,q2,lenD_mk ht,hv2])
      rw [if_pos hv2]
      by_cases hst:digitv c < 0 ∨ 7 < digitv c
      · have b1:lb_octal_sign_1 (Φ n) ⟨[some (Sx t),some (.int a),some (.int (pos t (c :: s))),some (.int v),x],none⟩ = some (⟨[some (Sx t),some (.int a),some (.int (pos t (c :: s))),some (.int v),some (.int (digitv c))],none⟩,.brk):=by
          by_cases h0:digitv c < 0
          · (delta lb_octal_sign_1;simp! [e2,hd,h0])
          · (delta lb_octal_sign_1;simp! [e2,hd,h0,hst.resolve_left h0])
        exact ⟨_,by rw [loop_brk c1 b1,if_pos hst]⟩
      · have h0:¬ digitv c < 0:=fun z=>hst (.inl z)
        have h1:¬ 7 < digitv c:=fun z=>hst (.inr z)
        have hm2:=mulD_int (a:=v) (b:=8) ⟨hv,by lia,by lia,by lia⟩
        have b1:lb_octal_sign_1 (Φ n) ⟨[some (Sx t),some (.int a),some (.int (pos t (c :: s))),some (.int v),x],none⟩ = some (⟨[some (Sx t),some (.int a),some (.int (pos t s)),some (.int (v * 8 + digitv c)),some (.int (digitv c))],none⟩,.nxt):=by
          (delta lb_octal_sign_1;simp! [e2,hd,h0,h1,hm2,e4])
        rw [loop_nxt c1 b1,if_neg hst]
        exact oct_loop hn ht a N k _ s _ (suf_tail h) (by simp at hl;lia) (by lia) (by lia)
    · have c1:lc_octal_sign_1 ⟨[some (Sx t),some (.int a),some (.int (pos t (c :: s))),some (.int v),x],none⟩ = ret' false:=by (delta lc_octal_sign_1;simp! only [q,q2,lenD_mk ht,hv2])
      exact ⟨x,by rw [loop_end c1,if_neg hv2]⟩
theorem chr_small {i:Int} (h0:0 ≤ i) (h1:i ≤ 1114111):chrF (.int i) = some (Sx [i.toNat]):=by
  unfold chrF
  dsimp only
  rw [if_pos ⟨h0,h1⟩]
  rfl
noncomputable def pairD (t:List Nat) (p:List Nat × List Nat):PyData:=.tuple [Sx p.1,.int (pos t p.2)]
theorem octal_ok {n:Nat} (hn:5 ≤ n) {t s:List Nat} (ht:Small t) (h:s <:+ t):Φ n "octal_sign" [Sx t,.int (pos t s)] = ret' (pairD t ([(octv 3 0 s).1.toNat],(octv 3 0 s).2)):=by
  obtain ⟨n,rfl⟩:∃ k,n = k + 1:=⟨n - 1,by lia⟩
  rw [phi_octal_sign (by lia)]
  obtain ⟨x',hx⟩:=oct_loop (n:=n) (by lia) ht (pos t s) bigN 3 0 s none h (bigN_lt h ht) (by lia) (by lia)
  have hb:=octv_bound 3 0 s (by lia) (by lia)
  have hc:=chr_small hb.1 (by lia)
  (apply m_ret;delta den_octal_sign;simp! [sWhile,hx,hc,pairD])
noncomputable def hexT (Φ:Oracle):Store→Option Out :=
  sCons (sAsg 3 (dBin addD (getV 1) (dK (.int 1)))) <|
  sCons (sAsg 4 (dK (.int 0))) <|
  sCons (sWhile lc_hex_sign_1 (lb_hex_sign_1 Φ)) <|
  sCons (sIte (tCmp eqD (getV 3) (dBin addD (getV 1) (dK (.int 1))))
    (sCons (sRet (dTup (aCons (dIdx (getV 0) (getV 1)) (aCons (getV 3) aNil)))) <|
    sNil)
    (sNil)) <|
  sCons (sRet (dTup (aCons (dOn chrF (getV 4)) (aCons (getV 3) aNil)))) <|
  sNil
theorem hex_tl {n:Nat} (hn:4 ≤ n) {t s:List Nat} {c:Nat} (ht:Small t) (h:c :: s <:+ t) {m:Int} (hm:m = pos t s + (hexMost c:Nat)) :
    ∃ σ',hexT (Φ n) ⟨[some (Sx t),some (.int (pos t (c :: s))),some (.int m),none,none,none],none⟩ = some (σ',.ret (pairD t (hexS c s))):=by
  have hs:=suf_tail h
  obtain ⟨x',hx⟩:=hex_loop (n:=n) hn ht (pos t (c :: s)) m bigN (hexMost c) 0 s none hs (bigN_lt hs ht) (Int.le_refl 0) hm
  have hb:=hexv_bound (hexMost c) 0 s (by lia) (by lia)
  have hch:=chr_small hb.1 hb.2
  have e2:=item_at h ht
  have e4:=pos_cons t c s
  have hle:=(hexv_suf (hexMost c) 0 s).length_le
  unfold hexS
  by_cases hz:(hexv (hexMost c) 0 s).2.length = s.length
  · rw [if_pos hz]
    have hp:pos t (hexv (hexMost c) 0 s).2 = pos t s:=by unfold pos;rw [hz]
    rw [hp] at hx
    exact ⟨_,by delta hexT;simp! []⟩
  · rw [if_neg hz]
    have hp:(pos t (hexv (hexMost c) 0 s).2 == pos t s) = false:=by rw [beq_eq_false_iff_ne];unfold pos;lia
    exact ⟨_,by delta hexT;simp! [hp]⟩
theorem hex_ok {n:Nat} (hn:5 ≤ n) {t s:List Nat} {c:Nat} (ht:Small t) (h:c :: s <:+ t) (hc:c = 120 ∨ c = 117 ∨ c = 85):Φ n "hex_sign" [Sx t,.int (pos t (c :: s))] = ret' (pairD t (hexS c s)):=by
  obtain ⟨n,rfl⟩:∃ k,n = k + 1:=⟨n - 1,by lia⟩
  rw [phi_hex_sign (by lia)]
  have e2:=item_at h ht
  have e4:=pos_cons t c s
  have key:∀ {k:Nat},hexMost c = k→pos t (c :: s) + ((k:Int) + 1) = pos t s + (hexMost c:Nat):=fun {k} q=>by rw [q];lia
  rcases hc with rfl | rfl | rfl
  · obtain ⟨σ',hT⟩:=hex_tl (n:=n) (by lia) ht h (key (k:=2) rfl)
    refine m_ret (σ₁:=σ') ?_
    show sCons _ (sCons (sIte _ _ _) (hexT (Φ n))) _ = _
    simp! []
    exact hT
  · obtain ⟨σ',hT⟩:=hex_tl (n:=n) (by lia) ht h (key (k:=4) rfl)
    refine m_ret (σ₁:=σ') ?_
    show sCons _ (sCons (sIte _ _ _) (hexT (Φ n))) _ = _
    simp! []
    exact hT
  · obtain ⟨σ',hT⟩:=hex_tl (n:=n) (by lia) ht h (key (k:=8) rfl)
    refine m_ret (σ₁:=σ') ?_
    show sCons _ (sCons (sIte _ _ _) (hexT (Φ n))) _ = _
    simp! []
    exact hT
end Mine
end
section
set_option tactic.hygienic false
open PySem PySem.W PyProof.Rows PySem.Spec PySem.Calls PySem.Builtin PySem.Builtin.Str
namespace Mine
theorem find_none {x:List Nat} {c:Nat} (h:c ∉ x):Txt.find (mk x) (mk [c]) = -1:=by
  unfold Txt.find
  rcases StrLaws.occ_head (mk x) (mk [c]) 1 (Nat.le_refl 1) with ⟨h0,_⟩ | ⟨i,r,_,hA,_⟩
  · rw [h0]
  · have:=(StrLaws.subAt_one (mk x) c i).mp hA
    rw [mk_cps] at this
    exact absurd (List.mem_of_getElem? this) h
theorem find_at {a b:List Nat} {c:Nat} (h:c ∉ a):Txt.find (mk (a ++ c :: b)) (mk [c]) = a.length:=by
  unfold Txt.find
  have one:∀ i,StrLaws.At (mk (a ++ c :: b)) (mk [c]) (mk (a ++ c :: b)).length i ↔ (a ++ c :: b)[i]? = some c:=fun i=>by
    have:=StrLaws.subAt_one (mk (a ++ c :: b)) c i
    rw [mk_cps] at this
    exact this
  have h1:(a ++ c :: b)[a.length]? = some c:=by simp
  rcases StrLaws.occ_head (mk (a ++ c :: b)) (mk [c]) 1 (Nat.le_refl 1) with ⟨_,hn⟩ | ⟨i,r,h0,hA,hn⟩
  · exact absurd ((one _).mpr h1) (hn _)
  · rw [h0]
    have h2:=(one i).mp hA
    have h3:¬ a.length < i:=fun hlt=>hn _ hlt ((one _).mpr h1)
    have h4:¬ i < a.length:=fun hlt=>by
      rw [List.getElem?_append_left hlt] at h2
      exact h (List.mem_of_getElem? h2)
    show ((i:Nat):Int) = _
    lia
theorem find_it {c:Nat} (a b:List Nat) {i:Int} (hi:(a.length:Int) = i) (h:c ∉ a):findD (Sx (a ++ c :: b)) [Sx [c]] = some (.int i):=by
  subst hi;exact congrArg (fun i=>some (PyData.int i)) (find_at h)
theorem it0:itemD (Sx [7,8,12,10,13,9,11]) (.int 0) = some (Sx [7]):=rfl
theorem it1:itemD (Sx [7,8,12,10,13,9,11]) (.int 1) = some (Sx [8]):=rfl
theorem it2:itemD (Sx [7,8,12,10,13,9,11]) (.int 2) = some (Sx [12]):=rfl
theorem it3:itemD (Sx [7,8,12,10,13,9,11]) (.int 3) = some (Sx [10]):=rfl
theorem it4:itemD (Sx [7,8,12,10,13,9,11]) (.int 4) = some (Sx [13]):=rfl
theorem it5:itemD (Sx [7,8,12,10,13,9,11]) (.int 5) = some (Sx [9]):=rfl
theorem it6:itemD (Sx [7,8,12,10,13,9,11]) (.int 6) = some (Sx [11]):=rfl
theorem known_of (c:Nat):(known c = none∧findD (Sx [97,98,102,110,114,116,118]) [Sx [c]] = some (.int (-1))) ∨ ∃ k i,known c = some k∧findD (Sx [97,98,102,110,114,116,118]) [Sx [c]] = some (.int i)∧decide (0 ≤ i) = true∧itemD (Sx [7,8,12,10,13,9,11]) (.int i) = some (Sx [k]):=by
  by_cases h0:c = 97
  · subst h0;exact .inr ⟨7,0,rfl,find_it [] [98,102,110,114,116,118] rfl (by decide),rfl,it0⟩
  by_cases h1:c = 98
  · subst h1;exact .inr ⟨8,1,rfl,find_it [97] [102,110,114,116,118] rfl (by decide),rfl,it1⟩
  by_cases h2:c = 102
  · subst h2;exact .inr ⟨12,2,rfl,find_it [97,98] [110,114,116,118] rfl (by decide),rfl,it2⟩
  by_cases h3:c = 110
  · subst h3;exact .inr ⟨10,3,rfl,find_it [97,98,102] [114,116,118] rfl (by decide),rfl,it3⟩
  by_cases h4:c = 114
  · subst h4;exact .inr ⟨13,4,rfl,find_it [97,98,102,110] [116,118] rfl (by decide),rfl,it4⟩
  by_cases h5:c = 116
  · subst h5;exact .inr ⟨9,5,rfl,find_it [97,98,102,110,114] [118] rfl (by decide),rfl,it5⟩
  by_cases h6:c = 118
  · subst h6;exact .inr ⟨11,6,rfl,find_it [97,98,102,110,114,116] [] rfl (by decide),rfl,it6⟩
  exact .inl ⟨(if_neg h0).trans ((if_neg h1).trans ((if_neg h2).trans ((if_neg h3).trans ((if_neg h4).trans ((if_neg h5).trans (if_neg h6)))))),congrArg (fun i=>some (PyData.int i)) (find_none (List.not_mem_cons_of_ne_of_not_mem h0 (List.not_mem_cons_of_ne_of_not_mem h1 (List.not_mem_cons_of_ne_of_not_mem h2 (List.not_mem_cons_of_ne_of_not_mem h3 (List.not_mem_cons_of_ne_of_not_mem h4 (List.not_mem_cons_of_ne_of_not_mem h5 (List.not_mem_cons_of_ne_of_not_mem h6 (List.not_mem_nil)))))))))⟩
@[simp] theorem strOnly_Sx (a:List Nat):strOnly (Sx a) = ret' (Sx a):=rfl
theorem bl2 (c:Nat):inD (Sx [c]) (.tuple [Sx [32],Sx [9]]) = some (decide (c = 32 ∨ c = 9)):=(strs_any (k:=[[32],[9]]) rfl).trans (by simp)
theorem bl2n:inD (Sx []) (.tuple [Sx [32],Sx [9]]) = some false:=(strs_any (k:=[[32],[9]]) rfl).trans (by simp)
theorem xuU (c:Nat):inD (Sx [c]) (.tuple [Sx [120],Sx [117],Sx [85]]) = some (decide (c = 120 ∨ c = 117 ∨ c = 85)):=(strs_any (k:=[[120],[117],[85]]) rfl).trans (by simp)
theorem oct8 (c:Nat):inD (Sx [c]) (.tuple [Sx [48],Sx [49],Sx [50],Sx [51],Sx [52],Sx [53],Sx [54],Sx [55]]) = some (decide (48 ≤ c∧c ≤ 55)):=(strs_any (k:=[[48],[49],[50],[51],[52],[53],[54],[55]]) rfl).trans (by
  congr 1
  rw [decide_eq_decide]
  refine ⟨fun h=>(by decide:∀ x ∈ ([[48],[49],[50],[51],[52],[53],[54],[55]]:List (List Nat)),48 ≤ x.headD 0∧x.headD 0 ≤ 55) _ h,fun h=>?_⟩
  obtain ⟨i,rfl⟩:=Nat.le.dest h.1
  exact (by decide:∀ i < 8,[48 + i] ∈ ([[48],[49],[50],[51],[52],[53],[54],[55]]:List (List Nat))) i (by have:=h.2;lia))
@[simp] theorem tupD_8 (a b c d e f g h:PyData):tupD [a,b,c,d,e,f,g,h] = ret' (.tuple [a,b,c,d,e,f,g,h]):=rfl
@[simp] theorem tupD_7 (a b c d e f g:PyData):tupD [a,b,c,d,e,f,g] = ret' (.tuple [a,b,c,d,e,f,g]):=rfl
theorem blanks_eq (c:Nat) (s:List Nat):blanks (c :: s) = if c = 32 ∨ c = 9 then blanks s else c :: s:=by rw [blanks.eq_def]
theorem bl_loop {Ψ:Oracle} {t:List Nat} (ht:Small t) (a:Int) (x y:Option PyData):∀ (N:Nat) (s:List Nat),s <:+ t→s.length < N →
    loopN lc_backslash_1 (lb_backslash_1 Ψ) N ⟨[some (Sx t),some (.int a),x,y,some (.int (pos t s))],none⟩ = some (⟨[some (Sx t),some (.int a),x,y,some (.int (pos t (blanks s)))],none⟩,.nxt)
  | 0,s,h,hl=>absurd hl (Nat.not_lt_zero _)
  | N + 1,[],h,hl=>by
    have e3:=cut1 h ht
    rw [loop_end (by (delta lc_backslash_1;simp! only [e3,bl2n]))];rfl
  | N + 1,c :: s,h,hl=>by
    have e3:=cut1 h ht
    have b:=bl2 c
    rw [blanks_eq]
    by_cases hc:c = 32 ∨ c = 9
    · have q:decide (c = 32 ∨ c = 9) = true:=by simpa using hc
      have e4:=pos_cons t c s
      rw [loop_nxt (σ':=⟨[some (Sx t),some (.int a),x,y,some (.int (pos t s))],none⟩) (by (delta lc_backslash_1;simp! only [e3,b,hc])) (by (delta lb_backslash_1;simp! [pos_cons])),if_pos hc]
      exact bl_loop ht a x y N s (suf_tail h) (by simp at hl;lia)
    · rw [loop_end (by (delta lc_backslash_1;simp! only [e3,b,hc])),if_neg hc]
theorem bs_cons_some {c k:Nat} (h:known c = some k) (s:List Nat):bs (c :: s) = ([k],s):=by unfold bs;dsimp only;rw [h]
theorem bs_cons_none {c:Nat} (h:known c = none) (s:List Nat):bs (c :: s) = if c = 10 then ([32],blanks s) else if c = 120 ∨ c = 117 ∨ c = 85 then hexS c s else if 48 ≤ c∧c ≤ 55 then ([(octv 3 0 (c :: s)).1.toNat],(octv 3 0 (c :: s)).2) else ([c],s):=by unfold bs;dsimp only;rw [h]
theorem backslash_ok {n:Nat} (hn:6 ≤ n) {t s:List Nat} (ht:Small t) (h:92 :: s <:+ t):Φ n "backslash" [Sx t,.int (pos t (92 :: s))] = ret' (pairD t (bs s)):=by
  obtain ⟨n,rfl⟩:∃ k,n = k + 1:=⟨n - 1,by lia⟩
  rw [phi_backslash (by lia)]
  have e3:=cut12 h ht
  have e4:=pos_cons t 92 s
  have hs:=suf_tail h
  cases s with
  | nil =>
    rw [e4] at e3
    (apply m_ret;delta den_backslash;simp! [e3,e4,bs,pairD])
  | cons c s =>
    have e5:=pos_cons2 t 92 c s
    have e6:=pos_cons t c s
    rw [e4,e5] at e3
    change _ = some (Sx [c]) at e3
    have hk:=known_of c
    have hl7:PyData.str "abfnrtv" = Sx [97,98,102,110,114,116,118]:=rfl
    rw [← hl7] at hk
    rcases hk with ⟨hkn,hk⟩ | ⟨k,i,hkn,hk,hi,hit⟩
    rotate_left
    · rw [bs_cons_some hkn]
      have hit:itemD (.str "\x07\x08\x0c\n\x0d\x09\x0b") (.int i) = some (Sx [k]):=hit
      (apply m_ret;delta den_backslash;simp! [])
    · rw [bs_cons_none hkn]
      by_cases h10:c = 10
      · subst h10
        have hb:=bl_loop (Ψ:=Φ n) ht (pos t (92 :: 10 :: s)) (some (Sx [10])) (some (.int (-1))) bigN s (suf_tail hs) (bigN_lt (suf_tail hs) ht)
        (apply m_ret;delta den_backslash;simp! [e3,e4,e5,hk,sWhile,pairD,hb])
      · have q10:(c == 10) = false:=by simpa using h10
        rw [if_neg h10]
        have o1:=xuU c
        have o2:=oct8 c
        by_cases hx:c = 120 ∨ c = 117 ∨ c = 85
        · rw [if_pos hx]
          have hh:=hex_ok (n:=n) (by lia) ht hs hx
          (apply m_ret;delta den_backslash;simp! [e3,e4,e5,hk,q10,o1,hx,hh])
        · rw [if_neg hx]
          by_cases ho:48 ≤ c∧c ≤ 55
          · rw [if_pos ho]
            have hh:=octal_ok (n:=n) (by lia) ht hs
            (apply m_ret;delta den_backslash;simp! [e3,e4,e5,hk,q10,o1,hx,o2,ho,hh])
          · rw [if_neg ho]
            (apply m_ret;delta den_backslash;simp! [e3,e4,e5,hk,q10,o1,hx,o2,ho,pairD])
end Mine
end
section
set_option tactic.hygienic false
open PySem
namespace Mine
theorem brc_eq (d:Nat) (b:Bool) (acc:List Nat) (c:Nat) (s:List Nat):brc d b acc (c :: s) =
    if b = true∧(c = 32 ∨ c = 9) then brc d true acc s
    else if c = 123 then brc (d + 1) false (acc ++ [123]) s
    else if c = 125 then (match d with
      | 0=>some (acc,s)
      | d' + 1=>brc d' false (acc ++ [125]) s)
    else if c = 92 then (match s with
      | []=>none
      | e :: s'=>if e = 10 then brc d true (acc ++ [32]) s' else brc d false (acc ++ [92,e]) s')
    else brc d false (acc ++ [c]) s:=by rw [brc.eq_def] <;> rfl
@[simp] theorem brc_nil (d:Nat) (b:Bool) (acc:List Nat):brc d b acc [] = none:=by rw [brc.eq_def]
theorem brc_true (d:Nat) (acc:List Nat):∀ s,brc d true acc s = brc d false acc (blanks s)
  | []=>by simp [blanks]
  | c :: s=>by
    rw [brc_eq]
    unfold blanks
    by_cases h:c = 32 ∨ c = 9
    · rw [if_pos ⟨rfl,h⟩,if_pos h];exact brc_true d acc s
    · rw [if_neg h,brc_eq d false];simp [h]
noncomputable def plainB (c:Nat):Bool:=!(c == 123) && !(c == 125) && !(c == 92)
theorem brc_plain (d:Nat):∀ (s:List Nat) (acc:List Nat),brc d false acc s = brc d false (acc ++ s.takeWhile plainB) (s.dropWhile plainB)
  | [],acc=>by simp
  | c :: s,acc=>by
    by_cases h:plainB c = true
    · have h':c ≠ 123∧c ≠ 125∧c ≠ 92:=by simpa [plainB,and_assoc] using h
      rw [List.takeWhile_cons_of_pos h,List.dropWhile_cons_of_pos h,brc_eq]
      simp only [h'.1,h'.2.1,h'.2.2,Bool.false_eq_true,false_and,if_false]
      rw [brc_plain d s]
      simp
    · rw [List.takeWhile_cons_of_neg h,List.dropWhile_cons_of_neg h,List.append_nil]
theorem drop_suf (p:Nat→Bool) (s:List Nat):s.dropWhile p <:+ s:=List.dropWhile_suffix p
theorem take_of_suf {s b:List Nat} (h:s <:+ b):b.take (b.length - s.length) ++ s = b:=by
  obtain ⟨c,rfl⟩:=h
  simp
noncomputable def btw (b s:List Nat):List Nat:=b.take (b.length - s.length)
theorem btw_app (c s:List Nat):btw (c ++ s) s = c:=by simp [btw]
theorem btw_cons {b s:List Nat} {c:Nat} (h:c :: s <:+ b):btw b s = btw b (c :: s) ++ [c]:=by
  obtain ⟨p,rfl⟩:=h
  rw [btw_app,show p ++ c :: s = (p ++ [c]) ++ s by simp,btw_app]
theorem btw_trans {b s r:List Nat} (h:s <:+ b) (h2:r <:+ s):btw b r = btw b s ++ btw s r:=by
  obtain ⟨p,rfl⟩:=h
  obtain ⟨q,rfl⟩:=h2
  rw [btw_app,btw_app,show p ++ (q ++ r) = (p ++ q) ++ r by simp,btw_app]
theorem btw_self (s:List Nat):btw s s = []:=by simp [btw]
theorem btw_len {b s:List Nat} (h:s <:+ b):(btw b s).length = b.length - s.length:=by
  obtain ⟨p,rfl⟩:=h
  rw [btw_app];simp
theorem takeW_btw (p:Nat→Bool) (s:List Nat):s.takeWhile p = btw s (s.dropWhile p):=by
  have:=List.takeWhile_append_dropWhile (p:=p) (l:=s)
  conv=>rhs;arg 1;rw [← this]
  rw [btw_app]
end Mine
end
section
set_option tactic.hygienic false
open PySem PySem.W PyProof.Rows PySem.Spec PySem.Calls PySem.Builtin PySem.Builtin.Str
namespace Mine
theorem pos_sub1 (t:List Nat) (c:Nat) (s:List Nat):pos t s - 1 = pos t (c :: s):=by have:=pos_cons t c s;lia
theorem cut_btw {t b s:List Nat} (h:b <:+ t) (hr:s <:+ b) (ht:Small t):cutD (Sx t) (some (pos t b)) (some (pos t s)) = some (Sx (btw b s)):=cut_to h hr ht
theorem pl3 (c:Nat):decide (c ∈ [123,125,92]) = !plainB c:=by
  unfold plainB
  rw [Bool.eq_iff_iff]
  simp
  lia
noncomputable def bst (t:List Nat) (a z b p:Int) (m:List Nat) (d:Int) (x y:Option PyData):Store:=⟨[some (Sx t),some (.int a),some (.int z),some (.int b),some (.int p),some (Sx m),some (.int d),x,y],none⟩
theorem nin3 (c:Nat):ninD (Sx [c]) (Sx [123,125,92]) = some (plainB c):=by rw [ninD_Sx,pl3];simp
theorem bri_c {t:List Nat} (ht:Small t) {c:Nat} {s:List Nat} (h:c :: s <:+ t) (a b d:Int) (m:List Nat) (x y:Option PyData):lc_braces_1 (bst t a t.length b (pos t (c :: s)) m d x y) = ret' (plainB c):=by
  have e1:=pos_lt t (c :: s)
  simp only [List.isEmpty_cons,Bool.not_false] at e1
  have e2:=item_at h ht
  have p3:=nin3 c
  cases hc:plainB c <;> (delta lc_braces_1;simp! only [bst,e1,e2,p3,hc,-ninD_Sx])
theorem bri_0 {t:List Nat} (ht:Small t) (a b d:Int) (m:List Nat) (x y:Option PyData):lc_braces_1 (bst t a t.length b (pos t []) m d x y) = ret' false:=by
  have h1:tCmp (ordD fun a b=>decide (a < b)) (getV 4) (getV 2) (bst t a t.length b (pos t []) m d x y) = ret' false:=by simp [bst,pos_nil]
  simp only [lc_braces_1,tAnd,h1,bnd_ret]
  simp
theorem bri_b {Ψ:Oracle} {t:List Nat} {c:Nat} {s:List Nat} (a b d:Int) (m:List Nat) (x y:Option PyData):lb_braces_1 Ψ (bst t a t.length b (pos t (c :: s)) m d x y) = some (bst t a t.length b (pos t s) m d x y,.nxt):=by
  have e4:=pos_cons t c s
  (delta lb_braces_1 bst;simp! [e4])
theorem br_inner {Ψ:Oracle} {t:List Nat} (ht:Small t) (a b d:Int) (m:List Nat) (x y:Option PyData) (N:Nat):∀ (s:List Nat),s <:+ t→s.length < N →
    loopN lc_braces_1 (lb_braces_1 Ψ) N (bst t a t.length b (pos t s) m d x y) = some (bst t a t.length b (pos t (s.dropWhile plainB)) m d x y,.nxt):=by
  induction N with
  | zero=>exact fun s h hl=>absurd hl (Nat.not_lt_zero _)
  | succ N ih =>
    intro s h hl
    cases s with
    | nil =>
      rw [loop_end (bri_0 ht a b d m x y)];rfl
    | cons c s =>
      have c1:=bri_c ht h a b d m x y
      by_cases hc:plainB c = true
      · rw [hc] at c1
        rw [loop_nxt c1 (bri_b a b d m x y),List.dropWhile_cons_of_pos hc]
        exact ih s (suf_tail h) (by simp at hl;lia)
      · have hc':plainB c = false:=by simpa using hc
        rw [hc'] at c1
        rw [loop_end c1,List.dropWhile_cons_of_neg hc]
noncomputable def outB (t:List Nat) (r:Option (List Nat × List Nat)):Option (Except Str PyData):=match r with
  | some p=>ret' (pairD t p)
  | none=>some (.error "missing close-brace")
theorem brc_o (d:Nat) (acc s:List Nat):brc d false acc (123 :: s) = brc (d + 1) false (acc ++ [123]) s:=by rw [brc_eq];rfl
theorem brc_c0 (acc s:List Nat):brc 0 false acc (125 :: s) = some (acc,s):=by rw [brc_eq];rfl
theorem brc_cs (d:Nat) (acc s:List Nat):brc (d + 1) false acc (125 :: s) = brc d false (acc ++ [125]) s:=by rw [brc_eq];rfl
theorem brc_b0 (d:Nat) (acc:List Nat):brc d false acc [92] = none:=by rw [brc_eq];rfl
theorem brc_bn (d:Nat) (acc s:List Nat):brc d false acc (92 :: 10 :: s) = brc d true (acc ++ [32]) s:=by rw [brc_eq];rfl
theorem brc_be {e:Nat} (d:Nat) (acc s:List Nat) (h:e ≠ 10):brc d false acc (92 :: e :: s) = brc d false (acc ++ [92,e]) s:=by rw [brc_eq];exact if_neg h
noncomputable def BL (n N:Nat) (σ:Store):Res PyData:=(sbind (loopN lc_braces_2 (lb_braces_2 (Φ n)) N σ) (sCons (sRaise "missing close-brace") sNil)).map outR
section
variable {n N:Nat} {σ σ':Store}
theorem BL_nxt (hc:lc_braces_2 σ = ret' true) (hf:lb_braces_2 (Φ n) σ = some (σ',.nxt)):BL n (N + 1) σ = BL n N σ':=by unfold BL;rw [loop_nxt hc hf]
theorem BL_ret {d:PyData} (hc:lc_braces_2 σ = ret' true) (hf:lb_braces_2 (Φ n) σ = some (σ',.ret d)):BL n (N + 1) σ = ret' d:=by unfold BL;rw [loop_ret hc hf];rfl
theorem BL_end (hc:lc_braces_2 σ = ret' false):BL n (N + 1) σ = some (.error "missing close-brace"):=by unfold BL;rw [loop_end hc];rfl
variable {t m:List Nat} {a z b q d:Int} {x y:Option PyData}
theorem bb_o (e2:itemD (Sx t) (.int q) = some (Sx [123])) {r:Int} (e4:q + 1 = r):lb_braces_2 (Φ n) (bst t a z b q m d x y) = some (bst t a z b r m (d + 1) x y,.nxt):=by (delta lb_braces_2 bst;simp! [e2,e4])
theorem bb_c {r d':Int} (e2:itemD (Sx t) (.int q) = some (Sx [125])) (e4:q + 1 = r) (e9:d - 1 = d') (e10:(d' == 0) = false):lb_braces_2 (Φ n) (bst t a z b q m d x y) = some (bst t a z b r m d' x y,.nxt):=by (delta lb_braces_2 bst;simp! [e2,e4,e9,e10])
theorem bb_r {r:Int} {g:List Nat} {o:PyData} (e2:itemD (Sx t) (.int q) = some (Sx [125])) (e4:q + 1 = r) (es:r - 1 = q) (ec:cutD (Sx t) (some b) (some q) = some (Sx g)) (ea:addD (Sx m) (Sx g) = some o):lb_braces_2 (Φ n) (bst t a z b q m 1 x y) = some (bst t a z b r m 0 x y,.ret (.tuple [o,.int r])):=by (delta lb_braces_2 bst;simp! [e2,e4,es,ec,ea])
theorem bb_b {g:List Nat} (e2:itemD (Sx t) (.int q) = some (Sx [92])) (e3:cutD (Sx t) (some q) (some (q + 2)) = some (Sx g)) (hg:(g == [92,10]) = false) {r:Int} (e4:q + 2 = r):lb_braces_2 (Φ n) (bst t a z b q m d x y) = some (bst t a z b r m d x y,.nxt):=by subst e4;(delta lb_braces_2 bst;simp! [e2,e3,hg])
end
theorem br_loop {n:Nat} (hn:6 ≤ n) {t:List Nat} (ht:Small t) (a:Int) (N:Nat):∀ (s b m:List Nat) (k:Int) (d:Nat) (x y:Option PyData),s <:+ b→b <:+ t→s.length < N→m.length + b.length ≤ 1000→(k = pos t s ∨ (s = []∧k = t.length + 1)) →
    BL n N (bst t a t.length (pos t b) k m (d + 1) x y) = outB t (brc d false (m ++ btw b s) s):=by
  induction N with
  | zero=>exact fun s b m k d x y h hb hl hm hk=>absurd hl (Nat.not_lt_zero _)
  | succ N ih =>
  intro s b m k d x y h hb hl hm hk
  cases s with
  | nil =>
    have q:decide (k < (t.length:Int)) = false:=by rw [pos_nil] at hk;simp;lia
    exact BL_end (by (delta lc_braces_2;simp! only [bst,q]))
  | cons c s =>
    obtain rfl:k = pos t (c :: s):=by rcases hk with rfl | ⟨q,_⟩;rfl;cases q
    have hst:=h.trans hb
    have hs:=suf_tail h
    have e1:=pos_lt t (c :: s)
    simp only [List.isEmpty_cons,Bool.not_false] at e1
    have e2:=item_at hst ht
    have e3:=cut2 hst ht
    have e4:=pos_cons t c s
    have c1:lc_braces_2 (bst t a t.length (pos t b) (pos t (c :: s)) m (d + 1) x y) = ret' true:=by (delta lc_braces_2;simp! only [bst,e1])
    have hlen:s.length < N:=Nat.lt_of_succ_lt_succ hl
    by_cases h123:c = 123
    · subst h123
      exact (BL_nxt c1 (bb_o e2 e4)).trans ((ih s b m _ (d + 1) x y hs hb hlen hm (.inl rfl)).trans (by rw [brc_o,btw_cons h,List.append_assoc]))
    · by_cases h125:c = 125
      · subst h125
        cases d with
        | zero =>
          have ea:addD (Sx m) (Sx (btw b (125 :: s))) = some (Sx (m ++ btw b (125 :: s))):=addD_mk (by have:=btw_len h;have:=suf_len h;lia)
          exact (BL_ret c1 (bb_r e2 e4 (pos_sub1 t 125 s) (cut_btw hb h ht) ea)).trans (by rw [brc_c0];rfl)
        | succ d=>exact (BL_nxt c1 (bb_c e2 e4 (Int.add_sub_cancel _ _) (by simp;lia))).trans ((ih s b m _ d x y hs hb hlen hm (.inl rfl)).trans (by rw [brc_cs,btw_cons h,List.append_assoc]))
      · by_cases h92:c = 92
        · subst h92
          cases s with
          | nil=>exact (BL_nxt c1 (bb_b e2 e3 rfl rfl)).trans ((ih [] b m (pos t [92] + 2) d x y hs hb hlen hm (.inr ⟨rfl,by unfold pos;simp;lia⟩)).trans (by rw [brc_b0];rfl))
          | cons e s' =>
            have hs':=suf_tail hs
            have hl':s'.length < N:=Nat.lt_of_succ_lt hlen
            have e5:=pos_cons2 t 92 e s'
            by_cases he:e = 10
            · subst he
              have hbk:=backslash_ok (n:=n) (by lia) ht hst
              have hbs:bs (10 :: s') = ([32],blanks s'):=by rw [bs_cons_none (by decide)];rfl
              rw [hbs] at hbk
              simp only [pairD] at hbk
              have ec:=cut_btw hb h ht
              have hbl:=suf_len h
              have hbtw:=btw_len h
              have ea:addD (Sx (btw b (92 :: 10 :: s'))) (Sx [32]) = some (Sx (btw b (92 :: 10 :: s') ++ [32])):=addD_mk (by simp;lia)
              have ea2:addD (Sx m) (Sx (btw b (92 :: 10 :: s') ++ [32])) = some (Sx (m ++ (btw b (92 :: 10 :: s') ++ [32]))):=addD_mk (by simp;lia)
              rw [e5] at e3
              have hbl2:=(blanks_suf s').length_le
              refine (BL_nxt (σ':=bst t a t.length (pos t (blanks s')) (pos t (blanks s')) (m ++ (btw b (92 :: 10 :: s') ++ [32])) (d + 1) (some (Sx [32])) (some (.int (pos t (blanks s'))))) c1 (by (delta lb_braces_2 bst;simp! [e2,e3,e5,hbk,pairD,ec,ea,ea2]))).trans ((ih (blanks s') (blanks s') _ _ d (some (Sx [32])) (some (.int (pos t (blanks s')))) (List.suffix_refl _) ((blanks_suf s').trans (hs'.trans hb)) (by lia) ?_ (.inl rfl)).trans (by rw [brc_bn,brc_true,btw_self,List.append_nil,List.append_assoc]))
              have l1:(92 :: 10 :: s').length = s'.length + 2:=rfl
              rw [List.length_append,List.length_append,hbtw,l1];rw [l1] at hbl;simp;lia
            · have q10:(e == 10) = false:=beq_false_of_ne he
              exact (BL_nxt c1 (bb_b e2 e3 (by show ((92 == 92) && ((e == 10) && _)) = false;rw [q10];rfl) e5)).trans ((ih s' b m _ d x y hs' hb hl' hm (.inl rfl)).trans (by rw [brc_be _ _ _ he,btw_cons hs,btw_cons h];simp))
        · have q123:(c == 123) = false:=beq_false_of_ne h123
          have q125:(c == 125) = false:=beq_false_of_ne h125
          have q92:(c == 92) = false:=beq_false_of_ne h92
          have hp:plainB c = true:=by simp [plainB,q123,q125,q92]
          have hin:=br_inner (Ψ:=Φ n) ht a (pos t b) (d + 1) m x y bigN (c :: s) hst (bigN_lt hst ht)
          have q2:((c :: s).take 2 == [92,10]) = false:=by cases s <;> simp [h92]
          unfold bst at hin
          have hd:=drop_suf plainB (c :: s)
          have hx:btw b ((c :: s).dropWhile plainB) = btw b (c :: s) ++ (c :: s).takeWhile plainB:=by rw [btw_trans h hd,← takeW_btw]
          refine (BL_nxt (σ':=bst t a t.length (pos t b) (pos t ((c :: s).dropWhile plainB)) m (d + 1) x y) c1 (by (delta lb_braces_2 bst;simp! [e2,e3,q123,q125,q92,q2,sWhile,hin,-List.take_succ_cons]))).trans ((ih ((c :: s).dropWhile plainB) b m _ d x y (hd.trans h) hb ?_ hm (.inl rfl)).trans (by rw [hx,brc_plain d (c :: s),List.append_assoc]))
          rw [List.dropWhile_cons_of_pos hp];exact Nat.lt_of_le_of_lt (drop_suf plainB s).length_le hlen
theorem braces_ok {n:Nat} (hn:7 ≤ n) {t s:List Nat} (ht:Small t) (h:123 :: s <:+ t):Φ n "braces" [Sx t,.int (pos t (123 :: s))] = outB t (brc 0 false [] s):=by
  obtain ⟨n,rfl⟩:∃ k,n = k + 1:=⟨n - 1,by lia⟩
  rw [phi_braces (by lia)]
  have hs:=suf_tail h
  have e4:=pos_cons t 123 s
  have:=br_loop (n:=n) (by lia) ht (pos t (123 :: s)) bigN s s [] _ 0 none none (List.suffix_refl _) hs (bigN_lt hs ht) (by have:=suf_len hs;unfold Small at ht;simp;lia) (.inl rfl)
  rw [btw_self] at this
  simpa [den_braces,lenD_mk ht,e4,sWhile,bst,BL] using this
end Mine
end
section
set_option tactic.hygienic false
open PySem PySem.W PyProof.Rows PySem.Spec PySem.Calls PySem.Builtin PySem.Builtin.Str
namespace Mine
theorem ex3 (x:List Nat):inD (Sx x) (.tuple [Sx [],Sx [10],Sx [59]]) = some (decide (x = [] ∨ x = [10] ∨ x = [59])):=(strs_any (k:=[[],[10],[59]]) rfl).trans (by simp)
theorem is_expanded_ok {n:Nat} (hn:7 ≤ n) {t s:List Nat} (ht:Small t) (h:s <:+ t):Φ n "is_expanded" [Sx t,.int (pos t s)] = ret' (.bool (isExp s)):=by
  obtain ⟨n,rfl⟩:∃ k,n = k + 1:=⟨n - 1,by lia⟩
  rw [phi_is_expanded (by lia)]
  have e3:=cut3 h ht
  by_cases hx:s.take 3 = [123,42,125]
  · obtain ⟨r,rfl⟩:∃ r,s = 123 :: 42 :: 125 :: r:=by
      rcases s with _ | ⟨a,_ | ⟨b,_ | ⟨d,u⟩⟩⟩
      · cases hx
      · cases hx
      · cases hx
      · cases hx;exact ⟨u,rfl⟩
    have hr:r <:+ t:=suf_tail (suf_tail (suf_tail h))
    have e5:pos t (123 :: 42 :: 125 :: r) + 3 = pos t r:=by unfold pos;simp;lia
    rw [e5] at e3
    have e1:=cut1 hr ht
    have hsg:=skip_gaps_ok (n:=n) (by lia) ht hr
    have ho:=ex3 (r.take 1)
    have q3:(List.take 3 (123 :: 42 :: 125 :: r) == [123,42,125]) = true:=rfl
    cases r with
    | nil =>
      rw [show isExp [123,42,125] = false from rfl]
      (apply m_ret;delta den_is_expanded;simp! [e3,q3,e5,e1,ex3,-List.take_succ_cons])
    | cons c r =>
      rw [show isExp (123 :: 42 :: 125 :: c :: r) = (!(c == 10) && !(c == 59) && (skipGaps (c :: r)).length == (c :: r).length) from rfl]
      simp only [List.take_succ_cons,List.take_zero] at e1
      have ho:=ex3 [c]
      by_cases hc:c = 10 ∨ c = 59
      · have q:decide ([c] = [] ∨ [c] = [10] ∨ [c] = [59]) = true:=by simpa using hc
        rw [q] at ho
        have:(!(c == 10) && !(c == 59)) = false:=by rcases hc with rfl | rfl <;> rfl
        rw [this]
        (apply m_ret;delta den_is_expanded;simp! [e3,q3,e5,e1,ho,-List.take_succ_cons])
      · have q:decide ([c] = [] ∨ [c] = [10] ∨ [c] = [59]) = false:=by simpa using hc
        rw [q] at ho
        have c1:(!(c == 10) && !(c == 59)) = true:=by simp;exact not_or.mp hc
        rw [c1,Bool.true_and]
        have key:(pos t (skipGaps (c :: r)) == pos t (c :: r)) = ((skipGaps (c :: r)).length == (c :: r).length):=by
          rw [Bool.eq_iff_iff,beq_iff_eq,beq_iff_eq];unfold pos;lia
        (apply m_ret;delta den_is_expanded;simp! [e3,q3,e5,e1,ho,hsg,key,-List.take_succ_cons])
  · have q3:(List.take 3 s == [123,42,125]) = false:=by simpa using hx
    have:isExp s = false:=by unfold isExp;rw [q3];rfl
    rw [this]
    (apply m_ret;delta den_is_expanded;simp! [e3,q3])
noncomputable def stopsD (nested:Bool):PyData:=.tuple ([[32],[9],[11],[12],[13],[10],[59]].map Sx ++ if nested then [Sx [93]] else [])
theorem bare_stops_ok {n:Nat} (hn:4 ≤ n) (b:Bool):Φ n "bare_stops" [.bool b] = ret' (stopsD b):=by
  obtain ⟨n,rfl⟩:∃ k,n = k + 1:=⟨n - 1,by lia⟩
  rw [phi_bare_stops (by lia)]
  cases b <;> (apply m_ret;delta den_bare_stops;simp! [stopsD])
end Mine
end
section
set_option tactic.hygienic false
open PySem
namespace Mine
inductive Kd
  | paren
  | quote
  | bare (nested:Bool)
noncomputable def stop:Kd→Nat→Bool
  | .paren,c=>c == 41
  | .quote,c=>c == 34
  | .bare b,c=>isGap c || c == 10 || c == 59 || (b && c == 93)
noncomputable def bareK:Kd→Bool
  | .bare _=>true
  | _=>false
noncomputable def plainK (K:Kd) (c:Nat):Bool:=!(c == 36) && !(c == 91) && !(c == 92) && !(stop K c)
noncomputable def textD (x:List Nat):PyData:=.tuple [Sx [116,101,120,116],Sx x]
noncomputable def cmdD (x:List Nat):PyData:=.tuple [Sx [99,109,100],Sx x]
noncomputable def varD (x:List Nat) (i:PyData):PyData:=.tuple [Sx [118,97,114],Sx x,i]
noncomputable def wordD (e:Bool) (ps:List PyData):PyData:=.tuple [.bool e,.tuple ps]
noncomputable def fin (run:List Nat) (acc:List PyData):List PyData:=if run = [] then acc else acc ++ [textD run]
noncomputable def body (s:List Nat):List Nat:=if isExp s then s.drop 3 else s
noncomputable def xQuote:Str:="extra characters after close-quote"
noncomputable def xBrace:Str:="extra characters after close-brace"
noncomputable def mBr:Str:="missing close-bracket"
noncomputable def mBrace:Str:="missing close-brace"
noncomputable def mVar:Str:="missing close-brace for variable name"
noncomputable def mParen:Str:="missing )"
noncomputable def mQuote:Str:="missing \""
noncomputable def extraT (c:List Nat):Str:=if c.getLast? = some 34 then xQuote else xBrace
inductive Call
  | brl (s:List Nat)
  | ws (b:Bool) (s:List Nat) (acc:List PyData)
  | word (b:Bool) (s:List Nat)
  | pts (K:Kd) (s run:List Nat) (acc:List PyData)
  | var (s:List Nat)
noncomputable def Call.tx:Call→List Nat
  | .brl s=>s
  | .ws _ s _=>s
  | .word _ s=>s
  | .pts _ s _ _=>s
  | .var s=>s
inductive Rs
  | ok (v:List PyData) (mid rest:List Nat)
  | err (t:Str) (rest:List Nat)
inductive P:Nat→Call→Rs→Prop
  | p_nil {n K run acc}:P n (.pts K [] run acc) (.ok (fin run acc) [] [])
  | p_stop {n K c s run acc}:stop K c = true→P n (.pts K (c :: s) run acc) (.ok (fin run acc) (c :: s) (c :: s))
  | p_varT {n K s r run acc R}:P n (.var s) (.ok [textD [36]] r r)→P (n + 1) (.pts K r (run ++ [36]) acc) R→P (n + 1) (.pts K (36 :: s) run acc) R
  | p_varV {n K s r run acc x i R}:P n (.var s) (.ok [varD x i] r r)→P (n + 1) (.pts K r [] (fin run acc ++ [varD x i])) R→P (n + 1) (.pts K (36 :: s) run acc) R
  | p_varE {n K s r run acc t}:P n (.var s) (.err t r)→P (n + 1) (.pts K (36 :: s) run acc) (.err t r)
  | p_br {n K s r run acc R}:P n (.brl (skipCmd false s)) (.ok [] r r)→P (n + 1) (.pts K r [] (fin run acc ++ [cmdD (btw s (93 :: r))])) R→P (n + 1) (.pts K (91 :: s) run acc) R
  | p_brE {n K s r run acc t}:P n (.brl (skipCmd false s)) (.err t r)→P (n + 1) (.pts K (91 :: s) run acc) (.err t r)
  | p_brk {n b s run acc}:P n (.pts (.bare b) (92 :: 10 :: s) run acc) (.ok (fin run acc) (92 :: 10 :: s) (92 :: 10 :: s))
  | p_bs {n K s run acc R}:(bareK K = true→∀ s',s ≠ 10 :: s')→P n (.pts K (bs s).2 (run ++ (bs s).1) acc) R→P n (.pts K (92 :: s) run acc) R
  | p_run {n K c s run acc R}:plainK K c = true→P n (.pts K ((c :: s).dropWhile (plainK K)) (run ++ (c :: s).takeWhile (plainK K)) acc) R→P n (.pts K (c :: s) run acc) R
  | v_brace {n nm r}:125 ∉ nm→P n (.var (123 :: (nm ++ 125 :: r))) (.ok [varD nm .none] r r)
  | v_braceE {n s}:125 ∉ s→P n (.var (123 :: s)) (.err mVar [])
  | v_ix {n s u ps m r}:s.head? ≠ some 123→nameR false s = 40 :: u→P n (.pts .paren u [] []) (.ok ps m (41 :: r))→P (n + 1) (.var s) (.ok [varD (btw s (40 :: u)) (.tuple ps)] r r)
  | v_ixM {n s u ps m}:s.head? ≠ some 123→nameR false s = 40 :: u→P n (.pts .paren u [] []) (.ok ps m [])→P (n + 1) (.var s) (.err mParen [])
  | v_ixE {n s u t r}:s.head? ≠ some 123→nameR false s = 40 :: u→P n (.pts .paren u [] []) (.err t r)→P (n + 1) (.var s) (.err t r)
  | v_none {n s}:s.head? ≠ some 123→s.head? ≠ some 40→nameR false s = s→P n (.var s) (.ok [textD [36]] s s)
  | v_name {n s u}:s.head? ≠ some 123→nameR false s = u→u.head? ≠ some 40→u.length < s.length→P n (.var s) (.ok [varD (btw s u) .none] u u)
  | w_brace {n b s v x r}:body s = 123 :: v→brc 0 false [] v = some (x,r)→P n (.word b s) (.ok [wordD (isExp s) (fin x [])] r r)
  | w_braceE {n b s v}:body s = 123 :: v→brc 0 false [] v = none→P n (.word b s) (.err mBrace [])
  | w_quote {n b s v ps m r}:body s = 34 :: v→P n (.pts .quote v [] []) (.ok ps m (34 :: r))→P (n + 1) (.word b s) (.ok [wordD (isExp s) ps] r r)
  | w_quoteM {n b s v ps m}:body s = 34 :: v→P n (.pts .quote v [] []) (.ok ps m [])→P (n + 1) (.word b s) (.err mQuote [])
  | w_quoteE {n b s v t r}:body s = 34 :: v→P n (.pts .quote v [] []) (.err t r)→P (n + 1) (.word b s) (.err t r)
  | w_bare {n b s ps m r}:(body s).head? ≠ some 123→(body s).head? ≠ some 34→P n (.pts (.bare b) (body s) [] []) (.ok ps m r)→P (n + 1) (.word b s) (.ok [wordD (isExp s) ps] r r)
  | w_bareE {n b s t r}:(body s).head? ≠ some 123→(body s).head? ≠ some 34→P n (.pts (.bare b) (body s) [] []) (.err t r)→P (n + 1) (.word b s) (.err t r)
  | s_err {n b s acc t r}:P n (.word b s) (.err t r)→P (n + 1) (.ws b s acc) (.err t r)
  | s_end {n b s acc w m e}:P n (.word b s) (.ok [w] m e)→skipGaps e = []→P (n + 1) (.ws b s acc) (.ok (acc ++ [w]) e [])
  | s_nl {n b s acc w m e c r}:P n (.word b s) (.ok [w] m e)→skipGaps e = c :: r→c = 10 ∨ c = 59→P (n + 1) (.ws b s acc) (.ok (acc ++ [w]) e r)
  | s_cl {n s acc w m e r}:P n (.word true s) (.ok [w] m e)→skipGaps e = 93 :: r→P (n + 1) (.ws true s acc) (.ok (acc ++ [w]) e (93 :: r))
  | s_x {n b s acc w m e c r}:P n (.word b s) (.ok [w] m e)→e = c :: r→skipGaps e = e→c ≠ 10→c ≠ 59→(b = true→c ≠ 93)→P (n + 1) (.ws b s acc) (.err (extraT (btw s e)) e)
  | s_next {n b s acc w m e c r R}:P n (.word b s) (.ok [w] m e)→skipGaps e = c :: r→(c :: r).length < e.length→c ≠ 10→c ≠ 59→(b = true→c ≠ 93)→P (n + 1) (.ws b (c :: r) (acc ++ [w])) R→P (n + 1) (.ws b s acc) R
  | b_end {n}:P n (.brl []) (.err mBr [])
  | b_cl {n s}:P n (.brl (93 :: s)) (.ok [] s s)
  | b_cmd {n c s v m r R}:c ≠ 93→P n (.ws true (c :: s) []) (.ok v m r)→P (n + 1) (.brl (skipCmd false r)) R→P (n + 1) (.brl (c :: s)) R
  | b_err {n c s t r}:c ≠ 93→P n (.ws true (c :: s) []) (.err t r)→P (n + 1) (.brl (c :: s)) (.err t r)
theorem P.mono {n:Nat} {k:Call} {R:Rs} (h:P n k R):P (n + 1) k R:=by
  induction h with
  | p_nil=>exact .p_nil
  | p_stop h=>exact .p_stop h
  | p_varT _ _ i1 i2=>exact .p_varT i1 i2
  | p_varV _ _ i1 i2=>exact .p_varV i1 i2
  | p_varE _ i1=>exact .p_varE i1
  | p_br _ _ i1 i2=>exact .p_br i1 i2
  | p_brE _ i1=>exact .p_brE i1
  | p_brk=>exact .p_brk
  | p_bs h _ i1=>exact .p_bs h i1
  | p_run h _ i1=>exact .p_run h i1
  | v_brace h=>exact .v_brace h
  | v_braceE h=>exact .v_braceE h
  | v_ix a b _ i=>exact .v_ix a b i
  | v_ixM a b _ i=>exact .v_ixM a b i
  | v_ixE a b _ i=>exact .v_ixE a b i
  | v_none a b c=>exact .v_none a b c
  | v_name a b c d=>exact .v_name a b c d
  | w_brace a b=>exact .w_brace a b
  | w_braceE a b=>exact .w_braceE a b
  | w_quote a _ i=>exact .w_quote a i
  | w_quoteM a _ i=>exact .w_quoteM a i
  | w_quoteE a _ i=>exact .w_quoteE a i
  | w_bare a b _ i=>exact .w_bare a b i
  | w_bareE a b _ i=>exact .w_bareE a b i
  | s_err _ i=>exact .s_err i
  | s_end _ a i=>exact .s_end i a
  | s_nl _ a b i=>exact .s_nl i a b
  | s_cl _ a i=>exact .s_cl i a
  | s_x _ a b c d e i=>exact .s_x i a b c d e
  | s_next _ a b c d e _ i1 i2=>exact .s_next i1 a b c d e i2
  | b_end=>exact .b_end
  | b_cl=>exact .b_cl
  | b_cmd a _ _ i1 i2=>exact .b_cmd a i1 i2
  | b_err a _ i=>exact .b_err a i
theorem P.le {n m:Nat} {k:Call} {R:Rs} (h:P n k R) (hm:n ≤ m):P m k R:=by
  obtain ⟨d,rfl⟩:=Nat.le.dest hm
  induction d with
  | zero=>exact h
  | succ d ih=>exact (ih (by lia)).mono
noncomputable def Rs.rest:Rs→List Nat
  | .ok _ _ r=>r
  | .err _ r=>r
noncomputable def Rs.mid:Rs→List Nat
  | .ok _ m _=>m
  | .err _ r=>r
theorem body_suf (s:List Nat):body s <:+ s:=by
  unfold body;split
  · exact List.drop_suffix _ _
  · exact List.suffix_refl _
theorem P.suf {n:Nat} {k:Call} {R:Rs} (h:P n k R):R.rest <:+ R.mid∧R.mid <:+ k.tx:=by
  have c1:∀ {a:Nat} {r s:List Nat},r <:+ s→r <:+ a :: s:=fun h=>h.trans (List.suffix_cons ..)
  have c0:∀ {a:Nat} {r s:List Nat},a :: r <:+ s→r <:+ s:=fun h=>(List.suffix_cons ..).trans h
  induction h with
  | p_nil=>exact ⟨List.suffix_refl _,List.suffix_refl _⟩
  | p_stop h=>exact ⟨List.suffix_refl _,List.suffix_refl _⟩
  | p_varT _ _ i1 i2=>exact ⟨i2.1,c1 (i2.2.trans i1.2)⟩
  | p_varV _ _ i1 i2=>exact ⟨i2.1,c1 (i2.2.trans i1.2)⟩
  | p_varE _ i1=>exact ⟨i1.1,c1 i1.2⟩
  | p_br _ _ i1 i2=>exact ⟨i2.1,c1 (i2.2.trans (i1.2.trans (skipCmd_suf _ _)))⟩
  | p_brE _ i1=>exact ⟨i1.1,c1 (i1.2.trans (skipCmd_suf _ _))⟩
  | p_brk=>exact ⟨List.suffix_refl _,List.suffix_refl _⟩
  | p_bs h _ i1=>exact ⟨i1.1,c1 (i1.2.trans (bs_suf _))⟩
  | p_run h _ i1=>exact ⟨i1.1,i1.2.trans (List.dropWhile_suffix _)⟩
  | v_brace h=>exact ⟨List.suffix_refl _,c1 ((List.suffix_cons ..).trans (List.suffix_append ..))⟩
  | v_braceE h=>exact ⟨List.suffix_refl _,List.nil_suffix⟩
  | v_ix a b _ i=>exact ⟨List.suffix_refl _,(c0 (i.1.trans i.2)).trans (c0 (b ▸ nameR_suf false _))⟩
  | v_ixM a b _ i=>exact ⟨List.suffix_refl _,List.nil_suffix⟩
  | v_ixE a b _ i=>exact ⟨i.1,i.2.trans (c0 (b ▸ nameR_suf false _))⟩
  | v_none a b c=>exact ⟨List.suffix_refl _,List.suffix_refl _⟩
  | v_name a b c d=>exact ⟨List.suffix_refl _,b ▸ nameR_suf false _⟩
  | w_brace a b=>exact ⟨List.suffix_refl _,(brc_suf _ _ _ _ _ _ b).1.trans (c0 (a ▸ body_suf _))⟩
  | w_braceE a b=>exact ⟨List.suffix_refl _,List.nil_suffix⟩
  | w_quote a _ i=>exact ⟨List.suffix_refl _,(c0 (i.1.trans i.2)).trans (c0 (a ▸ body_suf _))⟩
  | w_quoteM a _ i=>exact ⟨List.suffix_refl _,List.nil_suffix⟩
  | w_quoteE a _ i=>exact ⟨i.1,i.2.trans (c0 (a ▸ body_suf _))⟩
  | w_bare a b _ i=>exact ⟨List.suffix_refl _,(i.1.trans i.2).trans (body_suf _)⟩
  | w_bareE a b _ i=>exact ⟨i.1,i.2.trans (body_suf _)⟩
  | s_err _ i=>exact i
  | s_end _ a i=>exact ⟨List.nil_suffix,i.1.trans i.2⟩
  | s_nl _ a b i=>exact ⟨c0 (a ▸ skipGaps_suf _),i.1.trans i.2⟩
  | s_cl _ a i=>exact ⟨a ▸ skipGaps_suf _,i.1.trans i.2⟩
  | s_x _ a b c d e i=>exact ⟨List.suffix_refl _,i.1.trans i.2⟩
  | s_next _ a b c d e _ i1 i2=>exact ⟨i2.1,i2.2.trans ((a ▸ skipGaps_suf _).trans (i1.1.trans i1.2))⟩
  | b_end=>exact ⟨List.suffix_refl _,List.suffix_refl _⟩
  | b_cl=>exact ⟨List.suffix_refl _,List.suffix_cons ..⟩
  | b_cmd a _ _ i1 i2=>exact ⟨i2.1,i2.2.trans ((skipCmd_suf _ _).trans (i1.1.trans i1.2))⟩
  | b_err a _ i=>exact i
inductive PT:Nat→Kd→List Nat→List Nat→List PyData→Rs→Prop
  | p_nil {n K run acc}:PT n K [] run acc (.ok (fin run acc) [] [])
  | p_stop {n K c s run acc}:stop K c = true→PT n K (c :: s) run acc (.ok (fin run acc) (c :: s) (c :: s))
  | p_varT {n K s r run acc R}:P n (.var s) (.ok [textD [36]] r r)→P (n + 1) (.pts K r (run ++ [36]) acc) R→PT (n + 1) K (36 :: s) run acc R
  | p_varV {n K s r run acc x i R}:P n (.var s) (.ok [varD x i] r r)→P (n + 1) (.pts K r [] (fin run acc ++ [varD x i])) R→PT (n + 1) K (36 :: s) run acc R
  | p_varE {n K s r run acc t}:P n (.var s) (.err t r)→PT (n + 1) K (36 :: s) run acc (.err t r)
  | p_br {n K s r run acc R}:P n (.brl (skipCmd false s)) (.ok [] r r)→P (n + 1) (.pts K r [] (fin run acc ++ [cmdD (btw s (93 :: r))])) R→PT (n + 1) K (91 :: s) run acc R
  | p_brE {n K s r run acc t}:P n (.brl (skipCmd false s)) (.err t r)→PT (n + 1) K (91 :: s) run acc (.err t r)
  | p_brk {n b s run acc}:PT n (.bare b) (92 :: 10 :: s) run acc (.ok (fin run acc) (92 :: 10 :: s) (92 :: 10 :: s))
  | p_bs {n K s run acc R}:(bareK K = true→∀ s',s ≠ 10 :: s')→P n (.pts K (bs s).2 (run ++ (bs s).1) acc) R→PT n K (92 :: s) run acc R
  | p_run {n K c s run acc R}:plainK K c = true→P n (.pts K ((c :: s).dropWhile (plainK K)) (run ++ (c :: s).takeWhile (plainK K)) acc) R→PT n K (c :: s) run acc R
inductive PV:Nat→List Nat→Rs→Prop
  | v_brace {n nm r}:125 ∉ nm→PV n (123 :: (nm ++ 125 :: r)) (.ok [varD nm .none] r r)
  | v_braceE {n s}:125 ∉ s→PV n (123 :: s) (.err mVar [])
  | v_ix {n s u ps m r}:s.head? ≠ some 123→nameR false s = 40 :: u→P n (.pts .paren u [] []) (.ok ps m (41 :: r))→PV (n + 1) s (.ok [varD (btw s (40 :: u)) (.tuple ps)] r r)
  | v_ixM {n s u ps m}:s.head? ≠ some 123→nameR false s = 40 :: u→P n (.pts .paren u [] []) (.ok ps m [])→PV (n + 1) s (.err mParen [])
  | v_ixE {n s u t r}:s.head? ≠ some 123→nameR false s = 40 :: u→P n (.pts .paren u [] []) (.err t r)→PV (n + 1) s (.err t r)
  | v_none {n s}:s.head? ≠ some 123→s.head? ≠ some 40→nameR false s = s→PV n s (.ok [textD [36]] s s)
  | v_name {n s u}:s.head? ≠ some 123→nameR false s = u→u.head? ≠ some 40→u.length < s.length→PV n s (.ok [varD (btw s u) .none] u u)
inductive PW:Nat→Bool→List Nat→Rs→Prop
  | w_brace {n b s v x r}:body s = 123 :: v→brc 0 false [] v = some (x,r)→PW n b s (.ok [wordD (isExp s) (fin x [])] r r)
  | w_braceE {n b s v}:body s = 123 :: v→brc 0 false [] v = none→PW n b s (.err mBrace [])
  | w_quote {n b s v ps m r}:body s = 34 :: v→P n (.pts .quote v [] []) (.ok ps m (34 :: r))→PW (n + 1) b s (.ok [wordD (isExp s) ps] r r)
  | w_quoteM {n b s v ps m}:body s = 34 :: v→P n (.pts .quote v [] []) (.ok ps m [])→PW (n + 1) b s (.err mQuote [])
  | w_quoteE {n b s v t r}:body s = 34 :: v→P n (.pts .quote v [] []) (.err t r)→PW (n + 1) b s (.err t r)
  | w_bare {n b s ps m r}:(body s).head? ≠ some 123→(body s).head? ≠ some 34→P n (.pts (.bare b) (body s) [] []) (.ok ps m r)→PW (n + 1) b s (.ok [wordD (isExp s) ps] r r)
  | w_bareE {n b s t r}:(body s).head? ≠ some 123→(body s).head? ≠ some 34→P n (.pts (.bare b) (body s) [] []) (.err t r)→PW (n + 1) b s (.err t r)
inductive PS:Nat→Bool→List Nat→List PyData→Rs→Prop
  | s_err {n b s acc t r}:P n (.word b s) (.err t r)→PS (n + 1) b s acc (.err t r)
  | s_end {n b s acc w m e}:P n (.word b s) (.ok [w] m e)→skipGaps e = []→PS (n + 1) b s acc (.ok (acc ++ [w]) e [])
  | s_nl {n b s acc w m e c r}:P n (.word b s) (.ok [w] m e)→skipGaps e = c :: r→c = 10 ∨ c = 59→PS (n + 1) b s acc (.ok (acc ++ [w]) e r)
  | s_cl {n s acc w m e r}:P n (.word true s) (.ok [w] m e)→skipGaps e = 93 :: r→PS (n + 1) true s acc (.ok (acc ++ [w]) e (93 :: r))
  | s_x {n b s acc w m e c r}:P n (.word b s) (.ok [w] m e)→e = c :: r→skipGaps e = e→c ≠ 10→c ≠ 59→(b = true→c ≠ 93)→PS (n + 1) b s acc (.err (extraT (btw s e)) e)
  | s_next {n b s acc w m e c r R}:P n (.word b s) (.ok [w] m e)→skipGaps e = c :: r→(c :: r).length < e.length→c ≠ 10→c ≠ 59→(b = true→c ≠ 93)→P (n + 1) (.ws b (c :: r) (acc ++ [w])) R→PS (n + 1) b s acc R
inductive PB:Nat→List Nat→Rs→Prop
  | b_end {n}:PB n [] (.err mBr [])
  | b_cl {n s}:PB n (93 :: s) (.ok [] s s)
  | b_cmd {n c s v m r R}:c ≠ 93→P n (.ws true (c :: s) []) (.ok v m r)→P (n + 1) (.brl (skipCmd false r)) R→PB (n + 1) (c :: s) R
  | b_err {n c s t r}:c ≠ 93→P n (.ws true (c :: s) []) (.err t r)→PB (n + 1) (c :: s) (.err t r)
noncomputable def PInv (n:Nat):Call→Rs→Prop
  | .pts K s run acc,R=>PT n K s run acc R
  | .var s,R=>PV n s R
  | .word b s,R=>PW n b s R
  | .ws b s acc,R=>PS n b s acc R
  | .brl s,R=>PB n s R
theorem P.inv {n:Nat} {k:Call} {R:Rs} (h:P n k R):PInv n k R:=by
  induction h with
  | p_nil=>exact PT.p_nil
  | p_stop a0=>exact PT.p_stop a0
  | p_varT a0 a1=>exact PT.p_varT a0 a1
  | p_varV a0 a1=>exact PT.p_varV a0 a1
  | p_varE a0=>exact PT.p_varE a0
  | p_br a0 a1=>exact PT.p_br a0 a1
  | p_brE a0=>exact PT.p_brE a0
  | p_brk=>exact PT.p_brk
  | p_bs a0 a1=>exact PT.p_bs a0 a1
  | p_run a0 a1=>exact PT.p_run a0 a1
  | v_brace a0=>exact PV.v_brace a0
  | v_braceE a0=>exact PV.v_braceE a0
  | v_ix a0 a1 a2=>exact PV.v_ix a0 a1 a2
  | v_ixM a0 a1 a2=>exact PV.v_ixM a0 a1 a2
  | v_ixE a0 a1 a2=>exact PV.v_ixE a0 a1 a2
  | v_none a0 a1 a2=>exact PV.v_none a0 a1 a2
  | v_name a0 a1 a2 a3=>exact PV.v_name a0 a1 a2 a3
  | w_brace a0 a1=>exact PW.w_brace a0 a1
  | w_braceE a0 a1=>exact PW.w_braceE a0 a1
  | w_quote a0 a1=>exact PW.w_quote a0 a1
  | w_quoteM a0 a1=>exact PW.w_quoteM a0 a1
  | w_quoteE a0 a1=>exact PW.w_quoteE a0 a1
  | w_bare a0 a1 a2=>exact PW.w_bare a0 a1 a2
  | w_bareE a0 a1 a2=>exact PW.w_bareE a0 a1 a2
  | s_err a0=>exact PS.s_err a0
  | s_end a0 a1=>exact PS.s_end a0 a1
  | s_nl a0 a1 a2=>exact PS.s_nl a0 a1 a2
  | s_cl a0 a1=>exact PS.s_cl a0 a1
  | s_x a0 a1 a2 a3 a4 a5=>exact PS.s_x a0 a1 a2 a3 a4 a5
  | s_next a0 a1 a2 a3 a4 a5 a6=>exact PS.s_next a0 a1 a2 a3 a4 a5 a6
  | b_end=>exact PB.b_end
  | b_cl=>exact PB.b_cl
  | b_cmd a0 a1 a2=>exact PB.b_cmd a0 a1 a2
  | b_err a0 a1=>exact PB.b_err a0 a1
theorem P.ip {n:Nat} {K:Kd} {s run:List Nat} {acc:List PyData} {R:Rs} (h:P n (.pts K s run acc) R):PT n K s run acc R:=h.inv
theorem P.iv {n:Nat} {s:List Nat} {R:Rs} (h:P n (.var s) R):PV n s R:=h.inv
theorem P.iw {n:Nat} {b:Bool} {s:List Nat} {R:Rs} (h:P n (.word b s) R):PW n b s R:=h.inv
theorem P.is {n:Nat} {b:Bool} {s:List Nat} {acc:List PyData} {R:Rs} (h:P n (.ws b s acc) R):PS n b s acc R:=h.inv
theorem P.ib {n:Nat} {s:List Nat} {R:Rs} (h:P n (.brl s) R):PB n s R:=h.inv
end Mine
end
section
set_option tactic.hygienic false
open PySem
namespace Mine
noncomputable def isO (c:Nat):Bool:=c == 36 || c == 91
noncomputable def ms (s:List Nat):Nat:=4 * s.countP isO
theorem ms_suf {r s:List Nat} (h:r <:+ s):ms r ≤ ms s:=by
  have:=h.sublist.countP_le (p:=isO)
  unfold ms;lia
theorem ms_36 (s:List Nat):ms (36 :: s) = ms s + 4:=by unfold ms;rw [List.countP_cons_of_pos (by decide)];lia
theorem ms_91 (s:List Nat):ms (91 :: s) = ms s + 4:=by unfold ms;rw [List.countP_cons_of_pos (by decide)];lia
noncomputable def WsAt (b:Bool) (s:List Nat):Prop:=∃ c r,s = c :: r∧NoGap s∧c ≠ 10∧c ≠ 59∧(b = true→c ≠ 93)
theorem WsAt.noStop {b:Bool} {c:Nat} {r:List Nat} (h:WsAt b (c :: r)):stop (.bare b) c = false:=by
  obtain ⟨c',r',e,hg,h1,h2,h3⟩:=h
  cases e
  have h4:isGap c = false:=hg.1
  unfold stop
  dsimp only
  rw [h4]
  cases b with
  | false=>simp [h1,h2]
  | true=>simp [h1,h2,h3 rfl]
theorem CmdAt.wsAt {c:Nat} {s:List Nat} (h:CmdAt (c :: s)) (h93:c ≠ 93):WsAt true (c :: s):=⟨c,s,rfl,h.noGap,h.2.1,h.2.2.1,fun _=>h93⟩
theorem pt_lt {n:Nat} {K:Kd} {x run:List Nat} {acc:List PyData} {R:Rs} (h:PT n K x run acc R):∀ c s v m r,x = c :: s→R = .ok v m r→stop K c = false→(∀ s',¬ (c = 92∧s = 10 :: s'))→r.length ≤ s.length:=by
  have tl:∀ {c d:Nat} {s u w:List Nat},c :: s = d :: u→w.length ≤ s.length→w.length ≤ u.length:=fun e l=>(List.cons.inj e).2 ▸ l
  have rs:∀ {k:Call} {R:Rs} {v:List PyData} {m r:List Nat} {n:Nat},P n k R→R = .ok v m r→r.length ≤ k.tx.length:=fun h e=>by subst e;exact (h.suf.1.trans h.suf.2).length_le
  induction h with
  | p_nil=>exact fun _ _ _ _ _ e=>nomatch e
  | p_stop h=>exact fun c s v m r e _ hs _=>by rw [(List.cons.inj e).1,hs] at h;cases h
  | p_varT h1 h2=>exact fun c s v m r e eR _ _=>tl e (Nat.le_trans (rs h2 eR) h1.suf.2.length_le)
  | p_varV h1 h2=>exact fun c s v m r e eR _ _=>tl e (Nat.le_trans (rs h2 eR) h1.suf.2.length_le)
  | p_br h1 h2=>exact fun c s v m r e eR _ _=>tl e (Nat.le_trans (rs h2 eR) (h1.suf.2.trans (skipCmd_suf _ _)).length_le)
  | p_brk=>exact fun c s v m r e _ _ hb=>absurd ⟨(List.cons.inj e).1.symm,(List.cons.inj e).2.symm⟩ (hb _)
  | p_bs h1 h2=>exact fun c s v m r e eR _ _=>tl e (Nat.le_trans (rs h2 eR) (bs_suf _).length_le)
  | p_run h1 h2 =>
    intro c s v m r e eR _ _
    have:=rs h2 eR
    simp only [Call.tx] at this
    rw [List.dropWhile_cons_of_pos h1] at this
    exact tl e (Nat.le_trans this (List.dropWhile_suffix _).length_le)
  | _=>exact fun _ _ _ _ _ _ e=>nomatch e
theorem pts_lt {n:Nat} {b:Bool} {c:Nat} {s run:List Nat} {acc v:List PyData} {m r:List Nat} (hs:stop (.bare b) c = false) (hb:∀ s',¬ (c = 92∧s = 10 :: s')) (h:P n (.pts (.bare b) (c :: s) run acc) (.ok v m r)):r.length < (c :: s).length :=
  Nat.lt_succ_of_le (pt_lt h.ip c s v m r rfl rfl hs hb)
theorem pw_elim {n:Nat} {b:Bool} {s:List Nat} {R:Rs} {M:List PyData→List Nat→List Nat→Prop} (h:PW n b s R)
    (h1:∀ w x r,body s = 123 :: w→brc 0 false [] w = some (x,r)→M [wordD (isExp s) (fin x [])] r r)
    (h2:∀ n' w ps m' r,n = n' + 1→body s = 34 :: w→P n' (.pts .quote w [] []) (.ok ps m' (34 :: r))→M [wordD (isExp s) ps] r r)
    (h3:∀ n' ps m' r,n = n' + 1→(body s).head? ≠ some 123→(body s).head? ≠ some 34→P n' (.pts (.bare b) (body s) [] []) (.ok ps m' r)→M [wordD (isExp s) ps] r r):∀ v m r,R = .ok v m r→M v m r:=by
  have go:∀ {v' m' r' v m r},M v' m' r'→Rs.ok v' m' r' = .ok v m r→M v m r:=fun q e=>by obtain ⟨rfl,rfl,rfl⟩:=Rs.ok.inj e;exact q
  induction h with
  | w_brace a e=>exact fun _ _ _=>go (h1 _ _ _ a e)
  | w_quote a e=>exact fun _ _ _=>go (h2 _ _ _ _ _ rfl a e)
  | w_bare a c e=>exact fun _ _ _=>go (h3 _ _ _ _ rfl a c e)
  | _=>exact fun _ _ _ e=>nomatch e
theorem word_elim {n:Nat} {b:Bool} {s:List Nat} {v:List PyData} {m r:List Nat} {M:List PyData→List Nat→List Nat→Prop} (h:P n (.word b s) (.ok v m r))
    (h1:∀ w x r,body s = 123 :: w→brc 0 false [] w = some (x,r)→M [wordD (isExp s) (fin x [])] r r)
    (h2:∀ n' w ps m' r,n = n' + 1→body s = 34 :: w→P n' (.pts .quote w [] []) (.ok ps m' (34 :: r))→M [wordD (isExp s) ps] r r)
    (h3:∀ n' ps m' r,n = n' + 1→(body s).head? ≠ some 123→(body s).head? ≠ some 34→P n' (.pts (.bare b) (body s) [] []) (.ok ps m' r)→M [wordD (isExp s) ps] r r):M v m r:=pw_elim h.iw h1 h2 h3 v m r rfl
theorem isExp_len {s:List Nat} (h:isExp s = true):3 < s.length:=by
  rcases s with _ | ⟨a,_ | ⟨b,_ | ⟨d,_ | ⟨x,u⟩⟩⟩⟩
  · exact Bool.noConfusion (show false = true from h)
  · exact Bool.noConfusion (show false = true from (Bool.and_eq_true_iff.mp h).2)
  · exact Bool.noConfusion (show false = true from (Bool.and_eq_true_iff.mp h).2)
  · exact Bool.noConfusion (show false = true from (Bool.and_eq_true_iff.mp h).2)
  · exact Nat.succ_le_succ (Nat.succ_le_succ (Nat.succ_le_succ (Nat.succ_le_succ (Nat.zero_le _))))
theorem word_lt {n:Nat} {b:Bool} {s:List Nat} {v:List PyData} {m r:List Nat} (hs:WsAt b s) (h:P n (.word b s) (.ok v m r)):r.length < s.length:=by
  have hbs:=(body_suf s).length_le
  have up:∀ {c:Nat} {w r:List Nat},body s = c :: w→r.length ≤ w.length→r.length < s.length:=fun e l=>by rw [e] at hbs;exact Nat.lt_of_lt_of_le (Nat.lt_succ_of_le l) hbs
  refine word_elim (M:=fun _ _ r=>r.length < s.length) h (fun w x r a h=>up a (Nat.le_of_lt (brc_suf _ _ _ _ _ _ h).2)) (fun n' w ps m' r _ a h=>up a (Nat.le_of_succ_le (show (34 :: r).length ≤ w.length from (h.suf.1.trans h.suf.2).length_le))) (fun n' ps m' r _ a1 a2 h=>?_)
  by_cases he:isExp s = true
  · have h1:r.length ≤ (body s).length:=(h.suf.1.trans h.suf.2).length_le
    have h3:(body s).length = s.length - 3:=by unfold body;rw [if_pos he,List.length_drop]
    rw [h3] at h1
    exact Nat.lt_of_le_of_lt h1 (Nat.sub_lt (Nat.lt_trans (by decide) (isExp_len he)) (by decide))
  · have hb:body s = s:=by unfold body;rw [if_neg he]
    rw [hb] at h
    have hs':=hs
    obtain ⟨c,s',rfl,hg,_⟩:=hs
    exact pts_lt hs'.noStop hg.2 h
noncomputable def WsLt:Call→Rs→Prop
  | .ws b s _,.ok _ m _=>WsAt b s→m.length < s.length
  | _,_=>True
theorem ws_lt' {n:Nat} {k:Call} {R:Rs} (h:P n k R):WsLt k R:=by
  induction h with
  | s_end h1 a _=>exact fun hs=>word_lt hs h1
  | s_nl h1 a b' _=>exact fun hs=>word_lt hs h1
  | s_cl h1 a _=>exact fun hs=>word_lt hs h1
  | @s_next n b s acc w m e c r R h1 a h2 c1 c2 c3 _ _ ih =>
    cases R with
    | err _ _=>trivial
    | ok v m r' =>
      exact fun hs=>by
        have h3:=word_lt hs h1
        have:=ih ⟨_,_,rfl,a ▸ skipGaps_noGap _,c1,c2,c3⟩
        lia
  | _=>trivial
theorem ws_lt {n:Nat} {k:Call} {R:Rs} (h:P n k R):∀ {b s acc v m r},k = .ws b s acc→R = .ok v m r→WsAt b s→m.length < s.length:=by
  rintro b s acc v m r rfl rfl
  exact ws_lt' h
structure T (s:List Nat):Prop where
  pts:∀ N K run acc,ms s ≤ N→∃ R,P N (.pts K s run acc) R
  var:∀ N,ms s + 1 ≤ N→∃ R,P N (.var s) R
  word:∀ N b,ms s + 1 ≤ N→∃ R,P N (.word b s) R
  ws:∀ N b acc,WsAt b s→ms s + 2 ≤ N→∃ R,P N (.ws b s acc) R
  brl:∀ N,CmdAt s→ms s + 3 ≤ N→∃ R,P N (.brl s) R
noncomputable def PtsE (K:Kd):Rs→Prop
  | .ok _ m r=>m = r∧(r = [] ∨ (∃ c u,r = c :: u∧stop K c = true) ∨ (bareK K = true∧∃ u,r = 92 :: 10 :: u))
  | .err _ _=>True
noncomputable def BrlE:Rs→Prop
  | .ok v m r=>v = []∧m = r
  | .err _ _=>True
noncomputable def PtsC:Call→Rs→Prop
  | .pts K _ _ _,R=>PtsE K R
  | .brl _,R=>BrlE R
  | _,_=>True
theorem pts_c {n:Nat} {k:Call} {R:Rs} (h:P n k R):PtsC k R:=by
  induction h with
  | p_nil=>exact ⟨rfl,.inl rfl⟩
  | p_stop h=>exact ⟨rfl,.inr (.inl ⟨_,_,rfl,h⟩)⟩
  | p_varT _ _ _ i2=>exact i2
  | p_varV _ _ _ i2=>exact i2
  | p_br _ _ _ i2=>exact i2
  | p_brk=>exact ⟨rfl,.inr (.inr ⟨rfl,_,rfl⟩)⟩
  | p_bs _ _ i=>exact i
  | p_run _ _ i=>exact i
  | b_cl=>exact ⟨rfl,rfl⟩
  | b_cmd _ _ _ _ i2=>exact i2
  | _=>trivial
theorem pts_cases {n:Nat} {K:Kd} {s run:List Nat} {acc:List PyData} {v:List PyData} {m r:List Nat} (h:P n (.pts K s run acc) (.ok v m r)):m = r:=(pts_c h).1
theorem pts_end {n:Nat} {K:Kd} {s run:List Nat} {acc:List PyData} {v:List PyData} {m r:List Nat} (h:P n (.pts K s run acc) (.ok v m r)):r = [] ∨ (∃ c u,r = c :: u∧stop K c = true) ∨ (bareK K = true∧∃ u,r = 92 :: 10 :: u):=(pts_c h).2
theorem pv_cases {n:Nat} {s:List Nat} {R:Rs} (h:PV n s R):∀ v m r,R = .ok v m r→m = r∧(v = [textD [36]] ∨ ∃ x i,v = [varD x i]):=by
  have go:∀ {x:List Nat} {i:PyData} {r' v m r},Rs.ok [varD x i] r' r' = .ok v m r→m = r∧(v = [textD [36]] ∨ ∃ x i,v = [varD x i]):=fun e=>by obtain ⟨rfl,rfl,rfl⟩:=Rs.ok.inj e;exact ⟨rfl,.inr ⟨_,_,rfl⟩⟩
  induction h with
  | v_brace _=>exact fun _ _ _=>go
  | v_ix _ _ _=>exact fun _ _ _=>go
  | v_none _ _ _=>exact fun _ _ _ e=>by obtain ⟨rfl,rfl,rfl⟩:=Rs.ok.inj e;exact ⟨rfl,.inl rfl⟩
  | v_name _ _ _ _=>exact fun _ _ _=>go
  | _=>exact fun _ _ _ e=>nomatch e
theorem var_cases {n:Nat} {s:List Nat} {v:List PyData} {m r:List Nat} (h:P n (.var s) (.ok v m r)):m = r∧(v = [textD [36]] ∨ ∃ x i,v = [varD x i]):=pv_cases h.iv v m r rfl
theorem brl_cases {n:Nat} {k:Call} {R:Rs} (h:P n k R):∀ {s v m r},k = .brl s→R = .ok v m r→v = []∧m = r:=by
  rintro s v m r rfl rfl
  exact pts_c h
theorem word_cases {n:Nat} {b:Bool} {s:List Nat} {v:List PyData} {m r:List Nat} (h:P n (.word b s) (.ok v m r)):m = r∧∃ ps,v = [wordD (isExp s) ps] :=
  word_elim (M:=fun v m r=>m = r∧∃ ps,v = [wordD (isExp s) ps]) h (fun _ _ _ _ _=>⟨rfl,_,rfl⟩) (fun _ _ _ _ _ _ _ _=>⟨rfl,_,rfl⟩) (fun _ _ _ _ _ _ _ _=>⟨rfl,_,rfl⟩)
theorem split125:∀ {s:List Nat},125 ∈ s→∃ a b,s = a ++ 125 :: b∧125 ∉ a
  | c :: s,h=>by
    by_cases hc:c = 125
    · exact ⟨[],s,by rw [hc];rfl,by simp⟩
    · have h':125 ∈ s:=by
        rcases List.mem_cons.mp h with e | e
        · exact absurd e.symm hc
        · exact e
      obtain ⟨a,b,rfl,hn⟩:=split125 h'
      exact ⟨c :: a,b,rfl,by simp;exact ⟨fun q=>hc q.symm,hn⟩⟩
end Mine
end
section
set_option tactic.hygienic false
open PySem
namespace Mine
theorem tot_pts {s:List Nat} (IH:∀ s':List Nat,s'.length < s.length→T s'):∀ N K run acc,ms s ≤ N→∃ R,P N (.pts K s run acc) R:=by
  intro N K run acc hN
  cases s with
  | nil=>exact ⟨_,.p_nil⟩
  | cons c s =>
    by_cases hst:stop K c = true
    · exact ⟨_,.p_stop hst⟩
    · by_cases h36:c = 36
      · subst h36
        rw [ms_36] at hN
        obtain ⟨N,rfl⟩:∃ k,N = k + 1:=⟨N - 1,by lia⟩
        obtain ⟨R,hR⟩:=(IH s (by simp)).var N (by lia)
        cases R with
        | err t r=>exact ⟨_,.p_varE hR⟩
        | ok v m r =>
          obtain ⟨rfl,hv⟩:=var_cases hR
          have hsuf:=hR.suf.2
          simp only [Call.tx,Rs.mid] at hsuf
          have hlt:m.length < (36 :: s).length:=by have:=hsuf.length_le;simp;lia
          have hms:=ms_suf hsuf
          rcases hv with rfl | ⟨x,i,rfl⟩
          · obtain ⟨R,h2⟩:=(IH m hlt).pts (N + 1) K (run ++ [36]) acc (by lia)
            exact ⟨R,.p_varT hR h2⟩
          · obtain ⟨R,h2⟩:=(IH m hlt).pts (N + 1) K [] (fin run acc ++ [varD x i]) (by lia)
            exact ⟨R,.p_varV hR h2⟩
      · by_cases h91:c = 91
        · subst h91
          rw [ms_91] at hN
          obtain ⟨N,rfl⟩:∃ k,N = k + 1:=⟨N - 1,by lia⟩
          have hsk:=skipCmd_suf false s
          have hms:=ms_suf hsk
          obtain ⟨R,hR⟩:=(IH (skipCmd false s) (by have:=hsk.length_le;simp;lia)).brl N (skipCmd_at _ _) (by lia)
          cases R with
          | err t r=>exact ⟨_,.p_brE hR⟩
          | ok v m r =>
            obtain ⟨rfl,rfl⟩:=brl_cases hR rfl rfl
            have hsuf:=hR.suf.2
            simp only [Call.tx,Rs.mid] at hsuf
            have hsuf:=hsuf.trans hsk
            have hlt:m.length < (91 :: s).length:=by have:=hsuf.length_le;simp;lia
            have hms:=ms_suf hsuf
            obtain ⟨R,h2⟩:=(IH m hlt).pts (N + 1) K [] (fin run acc ++ [cmdD (btw s (93 :: m))]) (by lia)
            exact ⟨R,.p_br hR h2⟩
        · by_cases h92:c = 92
          · subst h92
            by_cases hbk:bareK K = true∧∃ s',s = 10 :: s'
            · obtain ⟨hb,s',rfl⟩:=hbk
              cases K with
              | bare b=>exact ⟨_,.p_brk⟩
              | paren=>cases hb
              | quote=>cases hb
            · have hsuf:=bs_suf s
              have hlt:(bs s).2.length < (92 :: s).length:=by have:=hsuf.length_le;simp;lia
              obtain ⟨R,h2⟩:=(IH _ hlt).pts N K (run ++ (bs s).1) acc (by have:=ms_suf (hsuf.trans (List.suffix_cons 92 s));lia)
              exact ⟨R,.p_bs (fun h s' e=>hbk ⟨h,s',e⟩) h2⟩
          · have hp:plainK K c = true:=by
              unfold plainK
              simp [h36,h91,h92,hst]
            have hsuf:=List.dropWhile_suffix (plainK K) (l:=c :: s)
            have hlt:((c :: s).dropWhile (plainK K)).length < (c :: s).length:=by
              rw [List.dropWhile_cons_of_pos hp]
              have:=(List.dropWhile_suffix (plainK K) (l:=s)).length_le
              simp;lia
            obtain ⟨R,h2⟩:=(IH _ hlt).pts N K (run ++ (c :: s).takeWhile (plainK K)) acc (by have:=ms_suf hsuf;lia)
            exact ⟨R,.p_run hp h2⟩
theorem tot_var {s:List Nat} (IH:∀ s':List Nat,s'.length < s.length→T s'):∀ N,ms s + 1 ≤ N→∃ R,P N (.var s) R:=by
  intro N hN
  by_cases h123:s.head? = some 123
  · cases s with
    | nil=>cases h123
    | cons c s =>
      cases h123
      by_cases h125:125 ∈ s
      · obtain ⟨a,b,rfl,hn⟩:=split125 h125
        exact ⟨_,.v_brace hn⟩
      · exact ⟨_,.v_braceE h125⟩
  · have hsuf:=nameR_suf false s
    by_cases h40:(nameR false s).head? = some 40
    · obtain ⟨u,hu⟩:∃ u,nameR false s = 40 :: u:=by
        cases hq:nameR false s with
        | nil=>rw [hq] at h40;cases h40
        | cons c u=>rw [hq] at h40;cases h40;exact ⟨u,rfl⟩
      obtain ⟨N,rfl⟩:∃ k,N = k + 1:=⟨N - 1,by lia⟩
      have hus:u <:+ s:=(List.suffix_cons 40 u).trans (hu ▸ hsuf)
      have hlt:u.length < s.length:=by
        have:=(hu ▸ hsuf).length_le
        simp at this;lia
      obtain ⟨R,hR⟩:=(IH u hlt).pts N .paren [] [] (by have:=ms_suf hus;lia)
      cases R with
      | err t r=>exact ⟨_,.v_ixE h123 hu hR⟩
      | ok v m r =>
        rcases pts_end hR with rfl | ⟨c,w,rfl,hc⟩ | ⟨hc,_⟩
        · exact ⟨_,.v_ixM h123 hu hR⟩
        · have:c = 41:=by simpa [stop] using hc
          subst this
          exact ⟨_,.v_ix h123 hu hR⟩
        · cases hc
    · by_cases hl:(nameR false s).length < s.length
      · exact ⟨_,.v_name h123 rfl h40 hl⟩
      · have he:nameR false s = s:=hsuf.eq_of_length (by have:=hsuf.length_le;lia)
        exact ⟨_,.v_none h123 (by rw [he] at h40;exact h40) he⟩
theorem tot_word {s:List Nat} (IH:∀ s':List Nat,s'.length < s.length→T s') (hpts:∀ N K run acc,ms s ≤ N→∃ R,P N (.pts K s run acc) R):∀ N b,ms s + 1 ≤ N→∃ R,P N (.word b s) R:=by
  intro N b hN
  have hsuf:=body_suf s
  have hpb:∀ {u:List Nat},u <:+ s→∀ N K,ms s ≤ N→∃ R,P N (.pts K u [] []) R:=fun {u} hu N K hN=>by
    by_cases hl:u.length < s.length
    · exact (IH u hl).pts N K [] [] (by have:=ms_suf hu;lia)
    · have:u = s:=hu.eq_of_length (by have:=hu.length_le;lia)
      rw [this];exact hpts N K [] [] hN
  by_cases h123:(body s).head? = some 123
  · obtain ⟨v,hv⟩:∃ v,body s = 123 :: v:=by
      cases hq:body s with
      | nil=>rw [hq] at h123;cases h123
      | cons c u=>rw [hq] at h123;cases h123;exact ⟨u,rfl⟩
    cases hb:brc 0 false [] v with
    | none=>exact ⟨_,.w_braceE hv hb⟩
    | some p=>obtain ⟨x,r⟩:=p;exact ⟨_,.w_brace hv hb⟩
  · obtain ⟨N,rfl⟩:∃ k,N = k + 1:=⟨N - 1,by lia⟩
    by_cases h34:(body s).head? = some 34
    · obtain ⟨v,hv⟩:∃ v,body s = 34 :: v:=by
        cases hq:body s with
        | nil=>rw [hq] at h34;cases h34
        | cons c u=>rw [hq] at h34;cases h34;exact ⟨u,rfl⟩
      obtain ⟨R,hR⟩:=hpb ((List.suffix_cons 34 v).trans (hv ▸ hsuf)) N .quote (by lia)
      cases R with
      | err t r=>exact ⟨_,.w_quoteE hv hR⟩
      | ok v m r =>
        rcases pts_end hR with rfl | ⟨c,w,rfl,hc⟩ | ⟨hc,_⟩
        · exact ⟨_,.w_quoteM hv hR⟩
        · have:c = 34:=by simpa [stop] using hc
          subst this
          exact ⟨_,.w_quote hv hR⟩
        · cases hc
    · obtain ⟨R,hR⟩:=hpb hsuf N (.bare b) (by lia)
      cases R with
      | err t r=>exact ⟨_,.w_bareE h123 h34 hR⟩
      | ok v m r=>exact ⟨_,.w_bare h123 h34 hR⟩
theorem tot_ws {s:List Nat} (IH:∀ s':List Nat,s'.length < s.length→T s') (hword:∀ N b,ms s + 1 ≤ N→∃ R,P N (.word b s) R):∀ N b acc,WsAt b s→ms s + 2 ≤ N→∃ R,P N (.ws b s acc) R:=by
  intro N b acc hs hN
  obtain ⟨N,rfl⟩:∃ k,N = k + 1:=⟨N - 1,by lia⟩
  obtain ⟨R,hR⟩:=hword N b (by lia)
  cases R with
  | err t r=>exact ⟨_,.s_err hR⟩
  | ok v m e =>
    obtain ⟨rfl,ps,rfl⟩:=word_cases hR
    have hlt:=word_lt hs hR
    have hes:=hR.suf.2
    simp only [Call.tx,Rs.mid] at hes
    cases hg:skipGaps m with
    | nil=>exact ⟨_,.s_end hR hg⟩
    | cons c r =>
      by_cases h1:c = 10 ∨ c = 59
      · exact ⟨_,.s_nl hR hg h1⟩
      · have h10:c ≠ 10:=fun q=>h1 (.inl q)
        have h59:c ≠ 59:=fun q=>h1 (.inr q)
        by_cases h93:b = true∧c = 93
        · obtain ⟨rfl,rfl⟩:=h93
          exact ⟨_,.s_cl hR hg⟩
        · have h93':b = true→c ≠ 93:=fun a q=>h93 ⟨a,q⟩
          have hsg:=skipGaps_suf m
          by_cases hl:(c :: r).length < m.length
          · rw [hg] at hsg
            have hw:WsAt b (c :: r):=⟨c,r,rfl,hg ▸ skipGaps_noGap _,h10,h59,h93'⟩
            obtain ⟨R,h2⟩:=(IH (c :: r) (by lia)).ws (N + 1) b (acc ++ [wordD (isExp s) ps]) hw (by have:=ms_suf (hsg.trans hes);lia)
            exact ⟨R,.s_next hR hg hl h10 h59 h93' h2⟩
          · have he:skipGaps m = m:=hsg.eq_of_length (by have:=hsg.length_le;rw [hg] at this ⊢;lia)
            exact ⟨_,.s_x hR (he.symm.trans hg) he h10 h59 h93'⟩
theorem tot_brl {s:List Nat} (IH:∀ s':List Nat,s'.length < s.length→T s') (hws:∀ N b acc,WsAt b s→ms s + 2 ≤ N→∃ R,P N (.ws b s acc) R):∀ N,CmdAt s→ms s + 3 ≤ N→∃ R,P N (.brl s) R:=by
  intro N hs hN
  cases s with
  | nil=>exact ⟨_,.b_end⟩
  | cons c s =>
    by_cases h93:c = 93
    · subst h93;exact ⟨_,.b_cl⟩
    · obtain ⟨N,rfl⟩:∃ k,N = k + 1:=⟨N - 1,by lia⟩
      obtain ⟨R,hR⟩:=hws N true [] (hs.wsAt h93) (by lia)
      cases R with
      | err t r=>exact ⟨_,.b_err h93 hR⟩
      | ok v m r =>
        have h1:=ws_lt hR rfl rfl (hs.wsAt h93)
        have h2:=hR.suf
        simp only [Call.tx,Rs.mid,Rs.rest] at h2
        have h3:=(skipCmd_suf false r).trans (h2.1.trans h2.2)
        obtain ⟨R,h4⟩:=(IH (skipCmd false r) (by have:=(skipCmd_suf false r).length_le;have:=h2.1.length_le;lia)).brl (N + 1) (skipCmd_at _ _) (by have:=ms_suf h3;lia)
        exact ⟨R,.b_cmd h93 hR h4⟩
theorem total (s:List Nat):T s:=by
  suffices h:∀ L (s:List Nat),s.length = L→T s from h _ s rfl
  intro L
  induction L using Nat.strongRecOn with
  | ind L ih =>
    intro s hsl
    subst hsl
    have IH:∀ s':List Nat,s'.length < s.length→T s':=fun s' h=>ih _ h s' rfl
    have h1:=tot_pts IH
    have h2:=tot_word IH h1
    have h3:=tot_ws IH h2
    exact ⟨h1,tot_var IH,h2,h3,tot_brl IH h3⟩
end Mine
end
section
set_option tactic.hygienic false
open PySem PySem.W PyProof.Rows PySem.Spec PySem.Calls PySem.Builtin PySem.Builtin.Str
namespace Mine
@[simp] theorem lf_Sx (x:List Nat):lf (Sx x) = true:=rfl
@[simp] theorem lf_int (x:Int):lf (.int x) = true:=rfl
@[simp] theorem lf_bool (x:Bool):lf (.bool x) = true:=rfl
@[simp] theorem lf_none:lf .none = true:=rfl
@[simp] theorem lf_tuple (l:List PyData):lf (.tuple l) = lfs l:=rfl
@[simp] theorem lfs_nil:lfs [] = true:=rfl
@[simp] theorem lfs_cons (a:PyData) (l:List PyData):lfs (a :: l) = (lf a && lfs l):=rfl
@[simp] theorem lf_textD (x:List Nat):lf (textD x) = true:=rfl
@[simp] theorem lf_cmdD (x:List Nat):lf (cmdD x) = true:=rfl
@[simp] theorem lf_varD (x:List Nat) (i:PyData):lf (varD x i) = lf i:=by simp [varD]
@[simp] theorem lf_wordD (e:Bool) (ps:List PyData):lf (wordD e ps) = lfs ps:=by simp [wordD]
theorem lfs_app (a b:List PyData):lfs (a ++ b) = (lfs a && lfs b):=lfs_append a b
theorem lfs_fin {run:List Nat} {acc:List PyData} (h:lfs acc = true):lfs (fin run acc) = true:=by
  unfold fin;split
  · exact h
  · rw [lfs_app,h];rfl
noncomputable def Call.lf:Call→Prop
  | .pts _ _ _ acc=>Mine.lfs acc = true
  | .ws _ _ acc=>Mine.lfs acc = true
  | _=>True
noncomputable def Rs.lf:Rs→Prop
  | .ok v _ _=>Mine.lfs v = true
  | .err _ _=>True
theorem lfs_add {a b:List PyData} (h:lfs a = true) (h':lfs b = true):lfs (a ++ b) = true:=by rw [lfs_app,h,h'];rfl
theorem P.lfs {n:Nat} {k:Call} {R:Rs} (h:P n k R):k.lf→R.lf:=by
  induction h with
  | p_nil=>exact fun h=>lfs_fin h
  | p_stop _=>exact fun h=>lfs_fin h
  | p_varT _ _ _ i2=>exact fun h=>i2 h
  | p_varV a _ i1 i2=>exact fun h=>i2 (lfs_add (lfs_fin h) (i1 trivial))
  | p_br _ _ i1 i2=>exact fun h=>i2 (lfs_add (lfs_fin h) rfl)
  | p_brk=>exact fun h=>lfs_fin h
  | p_bs h _ i1=>exact fun h=>i1 h
  | p_run h _ i1=>exact fun h=>i1 h
  | v_brace h=>exact fun _=>rfl
  | @v_ix n s u ps m r a b _ i=>exact fun _=>(by simpa using (show Mine.lfs ps = true from i rfl):Mine.lfs [varD (btw s (40 :: u)) (.tuple ps)] = true)
  | v_none a b c=>exact fun _=>rfl
  | v_name a b c d=>exact fun _=>rfl
  | w_brace a b=>exact fun _=>(by simp [lfs_fin (run:=_) (acc:=[]) rfl]:Mine.lfs [wordD _ (fin _ [])] = true)
  | @w_quote n b s v ps m r a _ i=>exact fun _=>(by simpa using (show Mine.lfs ps = true from i rfl):Mine.lfs [wordD (isExp s) ps] = true)
  | @w_bare n b s ps m r a _ _ i=>exact fun _=>(by simpa using (show Mine.lfs ps = true from i rfl):Mine.lfs [wordD (isExp s) ps] = true)
  | s_end _ a i=>exact fun h=>lfs_add h (i trivial)
  | s_nl _ a b i=>exact fun h=>lfs_add h (i trivial)
  | s_cl _ a i=>exact fun h=>lfs_add h (i trivial)
  | s_next _ a b c d e _ i1 i2=>exact fun h=>i2 (lfs_add h (i1 trivial))
  | b_cl=>exact fun _=>rfl
  | b_cmd a _ _ i1 i2=>exact fun _=>i2 trivial
  | _=>exact fun _=>trivial
noncomputable def stopsV:Kd→PyData
  | .paren=>.tuple [Sx [41]]
  | .quote=>.tuple [Sx [34]]
  | .bare b=>stopsD b
theorem nin_stops (K:Kd) (c:Nat):ninD (Sx [c]) (stopsV K) = some (!stop K c):=by
  unfold ninD
  have:inD (Sx [c]) (stopsV K) = some (stop K c):=by
    cases K with
    | paren=>exact (strs_any (k:=[[41]]) rfl).trans (by simp [stop];rfl)
    | quote=>exact (strs_any (k:=[[34]]) rfl).trans (by simp [stop];rfl)
    | bare b =>
      cases b with
      | false=>exact (strs_any (k:=[[32],[9],[11],[12],[13],[10],[59]]) rfl).trans (by simp [stop,isGap,← Bool.or_assoc];rfl)
      | true=>exact (strs_any (k:=[[32],[9],[11],[12],[13],[10],[59],[93]]) rfl).trans (by simp [stop,isGap,← Bool.or_assoc];rfl)
  rw [this];rfl
theorem sp_stops (K:Kd):inD (Sx [32]) (stopsV K) = some (bareK K):=by
  cases K with
  | paren=>exact (strs_any (k:=[[41]]) rfl).trans (by simp [bareK])
  | quote=>exact (strs_any (k:=[[34]]) rfl).trans (by simp [bareK])
  | bare b =>
    cases b with
    | false=>exact (strs_any (k:=[[32],[9],[11],[12],[13],[10],[59]]) rfl).trans (by simp [bareK])
    | true=>exact (strs_any (k:=[[32],[9],[11],[12],[13],[10],[59],[93]]) rfl).trans (by simp [bareK])
@[simp] theorem lf_stopsV (K:Kd):lf (stopsV K) = true:=by
  cases K with
  | paren=>rfl
  | quote=>rfl
  | bare b=>cases b <;> rfl
@[simp] theorem setV_own (i j:Nat) (d:PyData) (ds:List PyData) (vs:List (Option PyData)):setV i d ⟨vs,some (j,ds)⟩ = if j = i ∨ lf d = false then none else some ⟨vs.set i (some d),some (j,ds)⟩:=rfl
@[simp] theorem frz_own (i:Nat) (ds:List PyData) (vs:List (Option PyData)):frz ⟨vs,some (i,ds)⟩ = ⟨vs.set i (some (.list ds)),none⟩:=rfl
@[simp] theorem appV_own (i j:Nat) (f:Store→Res PyData) (ds:List PyData) (vs:List (Option PyData)):appV i f ⟨vs,some (j,ds)⟩ = if j = i∧ds.length ≤ 1000000 then ebind (f ⟨vs,some (j,ds)⟩) ⟨vs,some (j,ds)⟩ fun d=>if lf d then some (⟨vs,some (i,ds ++ [d])⟩,.nxt) else none else none:=rfl
theorem tupleF_small {ds:List PyData} (h:ds.length ≤ 1000000):tupleF (.list ds) = some (.tuple ds):=by unfold tupleF;dsimp only;rw [if_pos h]
noncomputable def pst (t:List Nat) (K:Kd) (a:Int) (run:List Nat) (acc:List PyData) (x6 x7 x8 x9:Option PyData):Store :=
  ⟨[some (Sx t),some (.int a),some (stopsV K),none,some (Sx run),some (.int t.length),x6,x7,x8,x9],some (3,acc)⟩
noncomputable def ptail:Store→Option Out :=
  sCons (sIte (tCmp neD (getV 4) (dK (.str "")))
    (sCons (appV 3 (dTup (aCons (dK (.str "text")) (aCons (getV 4) aNil)))) <|
    sNil)
    (sNil)) <|
  sCons (sRet (dTup (aCons (dOn tupleF (getV 3)) (aCons (getV 1) aNil)))) <|
  sNil
theorem ptail_ok {t:List Nat} {K:Kd} {a:Int} {run:List Nat} {acc:List PyData} {x6 x7 x8 x9:Option PyData} (h:acc.length ≤ 3000):(ptail (pst t K a run acc x6 x7 x8 x9)).map outR = ret' (.tuple [.tuple (fin run acc),.int a]):=by
  have h1:acc.length ≤ 1000000:=by lia
  by_cases hr:run = []
  · subst hr
    have t1:=tupleF_small h1
    (apply m_ret;delta ptail pst;simp! [fin,t1])
  · have hq:(run == []) = false:=by simpa using hr
    have t1:=tupleF_small (ds:=acc ++ [.tuple [.str "text",Sx run]]) (by simp;lia)
    have ef:fin run acc = acc ++ [textD run]:=by unfold fin;rw [if_neg hr]
    rw [ef]
    (apply m_ret;delta ptail pst;simp! [hq,hr])
noncomputable def pB:Store→Option Out :=
  sCons (sIte (tCmp eqD (dIdx (getV 6) (dK (.int 0))) (dK (.str "text")))
    (sCons (sAug addD 4 (dIdx (getV 6) (dK (.int 1)))) <|
    sNil)
    (sCons (sIte (tCmp neD (getV 4) (dK (.str "")))
      (sCons (appV 3 (dTup (aCons (dK (.str "text")) (aCons (getV 4) aNil)))) <|
      sCons (sAsg 4 (dK (.str ""))) <|
      sNil)
      (sNil)) <|
    sCons (appV 3 (getV 6)) <|
    sNil)) <|
  sNil
theorem itT0 (a b:PyData) (l:List PyData):itemD (.tuple (a :: b :: l)) (.int 0) = some a:=by
  unfold itemD
  dsimp only
  rw [if_pos (by decide),seqIndex_nat (by lia) (by simp;lia)];rfl
theorem itT1 (a b:PyData) (l:List PyData):itemD (.tuple (a :: b :: l)) (.int 1) = some b:=by
  unfold itemD
  dsimp only
  rw [if_pos (by decide),seqIndex_nat (by lia) (by simp;lia)];rfl
theorem pB_text {t:List Nat} {K:Kd} {a:Int} {run x:List Nat} {acc:List PyData} {x7 x8 x9:Option PyData} (h:run.length + x.length ≤ 10000) :
    pB (pst t K a run acc (some (textD x)) x7 x8 x9) = some (pst t K a (run ++ x) acc (some (textD x)) x7 x8 x9,.nxt):=by
  have i0:itemD (textD x) (.int 0) = some (Sx [116,101,120,116]):=itT0 _ _ _
  have i1:itemD (textD x) (.int 1) = some (Sx x):=itT1 _ _ _
  have ea:addD (Sx run) (Sx x) = some (Sx (run ++ x)):=addD_mk (by lia)
  (delta pB pst;simp! [i0,i1,ea])
theorem pB_part {t:List Nat} {K:Kd} {a:Int} {run nm:List Nat} {p y:PyData} {l:List PyData} {acc:List PyData} {x7 x8 x9:Option PyData} (hp:p = .tuple (Sx nm :: y :: l)) (hn:nm ≠ [116,101,120,116]) (hl:lf p = true) (h:acc.length ≤ 3000) :
    pB (pst t K a run acc (some p) x7 x8 x9) = some (pst t K a [] (fin run acc ++ [p]) (some p) x7 x8 x9,.nxt):=by
  have i0:itemD p (.int 0) = some (Sx nm):=by rw [hp];exact itT0 _ _ _
  have hq:(nm == [116,101,120,116]) = false:=by simpa using hn
  have h1:acc.length ≤ 1000000:=by lia
  by_cases hr:run = []
  · subst hr
    (delta pB pst;simp! [i0,hq,h1,hl,fin])
  · have hq2:(run == []) = false:=by simpa using hr
    have h2:acc.length + 1 ≤ 1000000:=by lia
    have ef:fin run acc = acc ++ [textD run]:=by unfold fin;rw [if_neg hr]
    rw [ef]
    have h2:(acc ++ [PyData.tuple [PyData.str "text",Sx run]]).length ≤ 1000000:=by simp;lia
    (delta pB pst;simp! [hq,hq2,hr])
end Mine
end
section
set_option tactic.hygienic false
open PySem PySem.W PyProof.Rows PySem.Spec PySem.Calls PySem.Builtin PySem.Builtin.Str
namespace Mine
noncomputable def pA (Φ:Oracle):Store→Option Out :=
  (sIte (tCmp eqD (dIdx (getV 0) (getV 1)) (dK (.str "$")))
    (sCons (sUnp [6,1] (dCall Φ "variable" (aCons (getV 0) (aCons (getV 1) aNil)))) <|
    sNil)
    (sCons (sIte (tCmp eqD (dIdx (getV 0) (getV 1)) (dK (.str "[")))
      (sCons (sUnp [7,1] (dCall Φ "brackets" (aCons (getV 0) (aCons (getV 1) aNil)))) <|
      sCons (sAsg 6 (dTup (aCons (dK (.str "cmd")) (aCons (getV 7) aNil)))) <|
      sNil)
      (sCons (sIte (tCmp eqD (dIdx (getV 0) (getV 1)) (dK (.str "\\")))
        (sCons (sIte (tAnd (tCmp inD (dK (.str " ")) (getV 2)) (tAnd (tCmp eqD (dCut (getV 0) (pOf (dBin addD (getV 1) (dK (.int 1)))) (pOf (dBin addD (getV 1) (dK (.int 2))))) (dK (.str "\n"))) tAnd0))
          (sCons (sBrk) <|
          sNil)
          (sNil)) <|
        sCons (sUnp [8,1] (dCall Φ "backslash" (aCons (getV 0) (aCons (getV 1) aNil)))) <|
        sCons (sAsg 6 (dTup (aCons (dK (.str "text")) (aCons (getV 8) aNil)))) <|
        sNil)
        (sCons (sAsg 9 (getV 1)) <|
        sCons (sWhile lc_parts_until_1 (lb_parts_until_1 Φ)) <|
        sCons (sAsg 6 (dTup (aCons (dK (.str "text")) (aCons (dCut (getV 0) (pOf (getV 9)) (pOf (getV 1))) aNil)))) <|
        sNil)) <|
      sNil)) <|
    sNil))
theorem lb_split (Ψ:Oracle):lb_parts_until_2 Ψ = sCons (pA Ψ) pB:=rfl
section
variable {Ψ:Oracle} {t:List Nat} {K:Kd} {s r run:List Nat} {acc:List PyData} {x6 x7 x8 x9:Option PyData}
theorem pc_nil (run:List Nat) (acc:List PyData) (x6 x7 x8 x9:Option PyData):lc_parts_until_2 (pst t K (pos t []) run acc x6 x7 x8 x9) = ret' false:=by
  have h1:tCmp (ordD fun a b=>decide (a < b)) (getV 1) (getV 5) (pst t K (pos t []) run acc x6 x7 x8 x9) = ret' false:=t_cmp (a:=.int (pos t [])) (b:=.int t.length) rfl rfl (ord_of (by rw [pos_nil];simp))
  exact t_andF h1
theorem pc_cons {c:Nat} (ht:Small t) (h:c :: s <:+ t):lc_parts_until_2 (pst t K (pos t (c :: s)) run acc x6 x7 x8 x9) = ret' (!stop K c):=by
  have e1:=pos_lt t (c :: s)
  simp only [List.isEmpty_cons,Bool.not_false] at e1
  have e2:=item_at h ht
  have e3:=nin_stops K c
  cases hc:stop K c <;> rw [hc] at e3 <;> (delta lc_parts_until_2 pst;simp! only [ e1,e2,e3])
theorem pA_var {p:PyData} (ht:Small t) (h:36 :: s <:+ t) (hv:Ψ "variable" [Sx t,.int (pos t (36 :: s))] = ret' (.tuple [p,.int (pos t r)])) (hp:lf p = true) :
    pA Ψ (pst t K (pos t (36 :: s)) run acc x6 x7 x8 x9) = some (pst t K (pos t r) run acc (some p) x7 x8 x9,.nxt):=by
  have e2:=item_at h ht
  (apply c_one;delta pA pst;simp! [e2,hv,hp])
theorem pA_varE {τ:Str} (ht:Small t) (h:36 :: s <:+ t) (hv:Ψ "variable" [Sx t,.int (pos t (36 :: s))] = some (.error τ)) :
    pA Ψ (pst t K (pos t (36 :: s)) run acc x6 x7 x8 x9) = some (pst t K (pos t (36 :: s)) run acc x6 x7 x8 x9,.exc τ):=by
  have e2:=item_at h ht
  (apply c_one;delta pA pst;simp! [e2,hv])
theorem pA_br {x:List Nat} (ht:Small t) (h:91 :: s <:+ t) (hv:Ψ "brackets" [Sx t,.int (pos t (91 :: s))] = ret' (.tuple [Sx x,.int (pos t r)])) :
    pA Ψ (pst t K (pos t (91 :: s)) run acc x6 x7 x8 x9) = some (pst t K (pos t r) run acc (some (cmdD x)) (some (Sx x)) x8 x9,.nxt):=by
  have e2:=item_at h ht
  (apply c_one;delta pA pst;simp! [e2,hv,cmdD])
theorem pA_brE {τ:Str} (ht:Small t) (h:91 :: s <:+ t) (hv:Ψ "brackets" [Sx t,.int (pos t (91 :: s))] = some (.error τ)) :
    pA Ψ (pst t K (pos t (91 :: s)) run acc x6 x7 x8 x9) = some (pst t K (pos t (91 :: s)) run acc x6 x7 x8 x9,.exc τ):=by
  have e2:=item_at h ht
  (apply c_one;delta pA pst;simp! [e2,hv])
theorem pA_brk (hK:bareK K = true) (ht:Small t) (h:92 :: 10 :: s <:+ t) :
    pA Ψ (pst t K (pos t (92 :: 10 :: s)) run acc x6 x7 x8 x9) = some (pst t K (pos t (92 :: 10 :: s)) run acc x6 x7 x8 x9,.brk):=by
  have e2:=item_at h ht
  have e3:=cut12 h ht
  have e4:=sp_stops K
  rw [hK] at e4
  (apply c_one;delta pA pst;simp! [e2,e3,e4])
theorem pA_bs (hK:bareK K = true→∀ s',s ≠ 10 :: s') (ht:Small t) (h:92 :: s <:+ t) (hv:Ψ "backslash" [Sx t,.int (pos t (92 :: s))] = ret' (pairD t (bs s))) :
    pA Ψ (pst t K (pos t (92 :: s)) run acc x6 x7 x8 x9) = some (pst t K (pos t (bs s).2) run acc (some (textD (bs s).1)) x7 (some (Sx (bs s).1)) x9,.nxt):=by
  have e2:=item_at h ht
  have e3:=cut12 h ht
  have e4:=sp_stops K
  simp only [pairD] at hv
  by_cases hb:bareK K = true
  · rw [hb] at e4
    have hq:¬ List.take 1 s = [10]:=by
      cases s with
      | nil=>simp
      | cons c s=>simp;intro q;exact hK hb s (by rw [q])
    (apply c_one;delta pA pst;simp! [e2,e3,e4,hq,hv,pairD,textD])
  · have hb':bareK K = false:=by simpa using hb
    rw [hb'] at e4
    (apply c_one;delta pA pst;simp! [e2,e3,e4,hv,pairD,textD])
theorem nin4 (c:Nat):ninD (Sx [c]) (Sx [36,91,92]) = some (!(c == 36) && !(c == 91) && !(c == 92)):=by
  rw [ninD_Sx]
  congr 1
  simp [← Bool.and_assoc]
  rfl
theorem pr_c {c:Nat} (ht:Small t) (h:c :: s <:+ t):lc_parts_until_1 (pst t K (pos t (c :: s)) run acc x6 x7 x8 x9) = ret' (plainK K c):=by
  have e1:=pos_lt t (c :: s)
  simp only [List.isEmpty_cons,Bool.not_false] at e1
  have e2:=item_at h ht
  have e3:=nin_stops K c
  have e4:=nin4 c
  unfold plainK
  cases hq:(!(c == 36) && !(c == 91) && !(c == 92)) <;> rw [hq] at e4 <;> cases hc:stop K c <;> rw [hc] at e3 <;> (delta lc_parts_until_1 pst;simp! only [ e1,e2,e3,e4,-ninD_Sx])
theorem pr_nil (run:List Nat) (acc:List PyData) (x6 x7 x8 x9:Option PyData):lc_parts_until_1 (pst t K (pos t []) run acc x6 x7 x8 x9) = ret' false:=by
  have h1:tCmp (ordD fun a b=>decide (a < b)) (getV 1) (getV 5) (pst t K (pos t []) run acc x6 x7 x8 x9) = ret' false:=t_cmp (a:=.int (pos t [])) (b:=.int t.length) rfl rfl (ord_of (by rw [pos_nil];simp))
  exact t_andF h1
theorem pr_b {c:Nat}:lb_parts_until_1 Ψ (pst t K (pos t (c :: s)) run acc x6 x7 x8 x9) = some (pst t K (pos t s) run acc x6 x7 x8 x9,.nxt):=by
  have e4:=pos_cons t c s
  (delta lb_parts_until_1 pst;simp! [])
theorem pr_loop (ht:Small t) (N:Nat):∀ s:List Nat,s <:+ t→s.length < N →
    loopN lc_parts_until_1 (lb_parts_until_1 Ψ) N (pst t K (pos t s) run acc x6 x7 x8 x9) = some (pst t K (pos t (s.dropWhile (plainK K))) run acc x6 x7 x8 x9,.nxt):=by
  induction N with
  | zero=>exact fun s h hl=>absurd hl (Nat.not_lt_zero _)
  | succ N ih =>
    intro s h hl
    cases s with
    | nil=>rw [loop_end (pr_nil ..)];rfl
    | cons c s =>
      have c1:=pr_c (K:=K) (run:=run) (acc:=acc) (x6:=x6) (x7:=x7) (x8:=x8) (x9:=x9) ht h
      by_cases hc:plainK K c = true
      · rw [hc] at c1
        rw [loop_nxt c1 pr_b,List.dropWhile_cons_of_pos hc]
        exact ih s (suf_tail h) (by simp at hl;omega)
      · have hc':plainK K c = false:=by simpa using hc
        rw [hc'] at c1
        rw [loop_end c1,List.dropWhile_cons_of_neg hc]
theorem pA_run {c:Nat} (hp:plainK K c = true) (ht:Small t) (h:c :: s <:+ t) :
    pA Ψ (pst t K (pos t (c :: s)) run acc x6 x7 x8 x9) = some (pst t K (pos t ((c :: s).dropWhile (plainK K))) run acc (some (textD ((c :: s).takeWhile (plainK K)))) x7 x8 (some (.int (pos t (c :: s)))),.nxt):=by
  have e2:=item_at h ht
  have hp':c ≠ 36∧c ≠ 91∧c ≠ 92:=by
    unfold plainK at hp
    simp only [Bool.and_eq_true,Bool.not_eq_true',beq_eq_false_iff_ne] at hp
    exact ⟨hp.1.1.1,hp.1.1.2,hp.1.2⟩
  have q1:(c == 36) = false:=by simpa using hp'.1
  have q2:(c == 91) = false:=by simpa using hp'.2.1
  have q3:(c == 92) = false:=by simpa using hp'.2.2
  have hl:=pr_loop (Ψ:=Ψ) (K:=K) (run:=run) (acc:=acc) (x6:=x6) (x7:=x7) (x8:=x8) (x9:=some (.int (pos t (c :: s)))) ht bigN (c :: s) h (bigN_lt h ht)
  have hd:=List.dropWhile_suffix (plainK K) (l:=c :: s)
  have ec:=cut_btw h hd ht
  rw [← takeW_btw] at ec
  unfold pst at hl
  (apply c_one;delta pA pst;simp! [e2,q1,q2,q3,sWhile,hl,ec,textD])
end
end Mine
end
section
set_option tactic.hygienic false
open PySem PySem.W PyProof.Rows PySem.Spec PySem.Calls PySem.Builtin PySem.Builtin.Str
namespace Mine
theorem getD_mk (t:List Nat) (i:Nat):(mk t).cps.getD i 0 = t.getD i 0:=by
  simp [mk,Array.getD,List.getD]
  split <;> simp_all
theorem fromIndex_pos {t s:List Nat} (h:s <:+ t):fromIndex t.length (pos t s) = t.length - s.length:=by
  have h1:=suf_len h
  have h2:=pos_nonneg h
  have h3:=pos_toNat h
  unfold fromIndex
  unfold pos at *
  split <;> lia
theorem suf_getD {t s:List Nat} (h:s <:+ t) (k:Nat):t.getD (t.length - s.length + k) 0 = s.getD k 0:=by
  obtain ⟨p,rfl⟩:=h
  have:(p ++ s).length - s.length = p.length:=by simp
  rw [this]
  simp [List.getD,List.getElem?_append_right]
theorem find3_some {t a b:List Nat} (h:a ++ 125 :: b <:+ t) (hn:125 ∉ a):Txt.find3 (mk t) (mk [125]) (pos t (a ++ 125 :: b)) = pos t (125 :: b):=by
  have hl:=suf_len h
  have hf:=fromIndex_pos h
  have hb:(a ++ 125 :: b).getD a.length 0 = 125:=by simp [List.getD]
  have hat:t.getD (t.length - (a ++ 125 :: b).length + a.length) 0 = 125:=by rw [suf_getD h];exact hb
  have hll:(a ++ 125 :: b).length = a.length + b.length + 1:=by simp;lia
  rcases StrLaws.find3_spec (mk t) 125 (pos t (a ++ 125 :: b)) with ⟨_,h2⟩ | ⟨k,h1,h2,h3,h4,h5⟩
  · rw [mk_len,hf] at h2
    exact absurd ((getD_mk t _).trans hat) (h2 _ (by lia) (by lia))
  · rw [mk_len] at h2 h3 h5
    rw [hf] at h2 h5
    have hk:k = t.length - (a ++ 125 :: b).length + a.length:=by
      rcases Nat.lt_trichotomy k (t.length - (a ++ 125 :: b).length + a.length) with hlt | rfl | hgt
      · exfalso
        obtain ⟨j,rfl⟩:=Nat.le.dest h2
        rw [getD_mk,suf_getD h] at h4
        have hj:j < a.length:=by lia
        have:(a ++ 125 :: b).getD j 0 = a[j]:=by simp [List.getD,List.getElem?_append_left hj,hj]
        rw [this] at h4
        exact hn (h4 ▸ List.getElem_mem hj)
      · rfl
      · exact absurd ((getD_mk t _).trans hat) (h5 _ (by lia) hgt)
    have e:(⟨#[125]⟩:Str) = mk [125]:=rfl
    rw [e] at h1
    rw [h1,hk]
    unfold pos
    simp
    lia
theorem find3_none {t s:List Nat} (h:s <:+ t) (hn:125 ∉ s):Txt.find3 (mk t) (mk [125]) (pos t s) = -1:=by
  have hl:=suf_len h
  have hf:=fromIndex_pos h
  rcases StrLaws.find3_spec (mk t) 125 (pos t s) with ⟨h1,_⟩ | ⟨k,h1,h2,h3,h4,h5⟩
  · exact h1
  · exfalso
    rw [mk_len] at h2 h3
    rw [hf] at h2
    obtain ⟨j,rfl⟩:=Nat.le.dest h2
    rw [getD_mk,suf_getD h] at h4
    have hj:j < s.length:=by lia
    have:s.getD j 0 = s[j]:=by simp [List.getD,hj]
    rw [this] at h4
    exact hn (h4 ▸ List.getElem_mem hj)
noncomputable def enc1 (t:List Nat):Rs→Option (Except Str PyData)
  | .ok v _ r=>match v with
    | [p]=>ret' (.tuple [p,.int (pos t r)])
    | _=>none
  | .err τ _=>some (.error τ)
noncomputable def encP (t:List Nat):Rs→Option (Except Str PyData)
  | .ok v _ r=>ret' (.tuple [.tuple v,.int (pos t r)])
  | .err τ _=>some (.error τ)
noncomputable def encB (t s0:List Nat):Rs→Option (Except Str PyData)
  | .ok _ _ r=>ret' (.tuple [Sx (btw s0 (93 :: r)),.int (pos t r)])
  | .err τ _=>some (.error τ)
noncomputable def encC (t s:List Nat):Rs→Option (Except Str PyData)
  | .ok v m r=>ret' (.tuple [.tuple v,.int (pos t s),.int (pos t m),.int (pos t r)])
  | .err τ _=>some (.error τ)
section
variable {n:Nat} {t s:List Nat}
theorem var_brace (hn:8 ≤ n) (ht:Small t) {nm r:List Nat} (h:36 :: 123 :: (nm ++ 125 :: r) <:+ t) (hnm:125 ∉ nm) :
    Φ (n + 1) "variable" [Sx t,.int (pos t (36 :: 123 :: (nm ++ 125 :: r)))] = ret' (.tuple [varD nm .none,.int (pos t r)]):=by
  rw [phi_variable (by lia)]
  have hs:=suf_tail h
  have e4:=pos_cons t 36 (123 :: (nm ++ 125 :: r))
  have e3:=cut1 hs ht
  have hf:=find3_some (a:=123 :: nm) (b:=r) hs (by simp [hnm])
  have hfd:findD (Sx t) [.str "}",.int (pos t (123 :: (nm ++ 125 :: r)))] = some (.int (pos t (125 :: r))):=congrArg (fun i=>some (PyData.int i)) hf
  have hp:¬ pos t (125 :: r) < 0:=by have:=pos_nonneg ((List.suffix_append (123 :: nm) (125 :: r)).trans hs);lia
  have e5:=pos_cons t 123 (nm ++ 125 :: r)
  rw [e5] at e3
  have ec:=cut_btw (suf_tail hs) (List.suffix_append nm (125 :: r)) ht
  rw [btw_app] at ec
  have e6:=pos_cons t 125 r
  (apply m_ret;delta den_variable;simp! [e4,e3,hfd,hp,e5,ec,e6,varD])
theorem var_braceE (hn:8 ≤ n) (ht:Small t) (h:36 :: 123 :: s <:+ t) (hnm:125 ∉ s) :
    Φ (n + 1) "variable" [Sx t,.int (pos t (36 :: 123 :: s))] = some (.error mVar):=by
  rw [phi_variable (by lia)]
  have hs:=suf_tail h
  have e4:=pos_cons t 36 (123 :: s)
  have e3:=cut1 hs ht
  have hf:=find3_none hs (by simp [hnm])
  have hfd:findD (Sx t) [.str "}",.int (pos t (123 :: s))] = some (.int (-1)):=congrArg (fun i=>some (PyData.int i)) hf
  (apply m_exc;delta den_variable;simp! [e4,e3,hfd,mVar])
theorem take1_ne {s:List Nat} {c:Nat} (h:s.head? ≠ some c):(s.take 1 == [c]) = false:=by
  cases s with
  | nil=>rfl
  | cons d s=>simp at h ⊢;exact h
theorem var_ix (hn:8 ≤ n) (ht:Small t) {u:List Nat} {R:Rs} (h:36 :: s <:+ t) (h123:s.head? ≠ some 123) (hu:nameR false s = 40 :: u) (hR:Φ n "parts_until" [Sx t,.int (pos t u),stopsV .paren] = encP t R)
    (hend:∀ v m r,R = .ok v m r→r = [] ∨ ∃ w,r = 41 :: w) :
    Φ (n + 1) "variable" [Sx t,.int (pos t (36 :: s))] = (match R with
      | .ok v _ (_ :: r)=>ret' (.tuple [varD (btw s (40 :: u)) (.tuple v),.int (pos t r)])
      | .ok _ _ []=>some (.error mParen)
      | .err τ _=>some (.error τ)):=by
  rw [phi_variable (by lia)]
  have hs:=suf_tail h
  have e4:=pos_cons t 36 s
  have e3:=cut1 hs ht
  have q:=take1_ne h123
  have hrn:=read_name_ok (n:=n) (by lia) ht hs
  rw [hu] at hrn
  have hus:40 :: u <:+ s:=hu ▸ nameR_suf false s
  have e5:=cut1 (hus.trans hs) ht
  have e6:=pos_cons t 40 u
  rw [e6] at e5
  have ec:=cut_btw hs hus ht
  have hl:=lenD_mk ht
  change Φ n "parts_until" [Sx t,.int (pos t u),.tuple [.str ")"]] = _ at hR
  cases R with
  | err τ r=>(simp only [encP] at hR;apply m_exc;delta den_variable;simp! [e4,e3,q,hrn,e5,e6])
  | ok v m r =>
    simp only [encP] at hR
    rcases hend v m r rfl with rfl | ⟨w,rfl⟩
    · (apply m_exc;delta den_variable;simp! [e4,e3,q,hrn,e5,e6,hl,pos_nil,mParen])
    · have e7:=pos_cons t 41 w
      have hlt:¬ (t.length:Int) ≤ pos t (41 :: w):=by unfold pos;simp;lia
      (apply m_ret;delta den_variable;simp! [e4,e3,q,hrn,e5,e6,hR,encP,hl,e7,hlt,ec,varD])
theorem var_none (hn:8 ≤ n) (ht:Small t) (h:36 :: s <:+ t) (h123:s.head? ≠ some 123) (h40:s.head? ≠ some 40) (hu:nameR false s = s) :
    Φ (n + 1) "variable" [Sx t,.int (pos t (36 :: s))] = ret' (.tuple [textD [36],.int (pos t s)]):=by
  rw [phi_variable (by lia)]
  have hs:=suf_tail h
  have e4:=pos_cons t 36 s
  have e3:=cut1 hs ht
  have q:=take1_ne h123
  have q2:=take1_ne h40
  have hrn:=read_name_ok (n:=n) (by lia) ht hs
  rw [hu] at hrn
  (apply m_ret;delta den_variable;simp! [e4,e3,q,q2,hrn,textD])
theorem var_name (hn:8 ≤ n) (ht:Small t) {u:List Nat} (h:36 :: s <:+ t) (h123:s.head? ≠ some 123) (hu:nameR false s = u) (h40:u.head? ≠ some 40) (hl:u.length < s.length) :
    Φ (n + 1) "variable" [Sx t,.int (pos t (36 :: s))] = ret' (.tuple [varD (btw s u) .none,.int (pos t u)]):=by
  rw [phi_variable (by lia)]
  have hs:=suf_tail h
  have e4:=pos_cons t 36 s
  have e3:=cut1 hs ht
  have q:=take1_ne h123
  have q2:=take1_ne h40
  have hrn:=read_name_ok (n:=n) (by lia) ht hs
  rw [hu] at hrn
  have hus:u <:+ s:=hu ▸ nameR_suf false s
  have e5:=cut1 (hus.trans hs) ht
  have ec:=cut_btw hs hus ht
  have hne:(pos t u == pos t s) = false:=by rw [beq_eq_false_iff_ne];unfold pos;lia
  (apply m_ret;delta den_variable;simp! [e4,e3,q,q2,hrn,e5,ec,hne,varD])
end
end Mine
end
section
set_option tactic.hygienic false
open PySem PySem.W PyProof.Rows PySem.Spec PySem.Calls PySem.Builtin PySem.Builtin.Str
namespace Mine
@[simp] theorem dropV_none:dropV none = none:=rfl
@[simp] theorem dropV_some' (d:PyData):dropV (some d) = if lf d then some d else none:=rfl
@[simp] theorem ownV_mk (i:Nat) (ds:List PyData) (vs:List (Option PyData)) (o:Option (Nat × List PyData)):ownV i ds ⟨vs,o⟩ = if lfs ds then some ⟨(vs.set i none).map dropV,some (i,ds)⟩ else none:=rfl
section
variable {n:Nat} {t s:List Nat}
theorem fn_pts (hn:3 ≤ n) (ht:Small t) {K:Kd} {R:Option (Except Str PyData)} (a:Int)
    (h:(sbind (loopN lc_parts_until_2 (lb_parts_until_2 (Φ n)) bigN (pst t K a [] [] none none none none)) ptail).map outR = R) :
    Φ (n + 1) "parts_until" [Sx t,.int a,stopsV K] = R:=by
  rw [phi_parts_until hn]
  subst h
  have hl:=lenD_mk ht
  have:den_parts_until (Φ n) = sCons (sOwn 3 (nLst aNil)) (sCons (sAsg 4 (dK (.str ""))) (sCons (sAsg 5 (dOn lenD (getV 0))) (sCons (sWhile lc_parts_until_2 (lb_parts_until_2 (Φ n))) ptail))):=rfl
  rw [this]
  refine congrArg (Option.map outR) ?_
  have ho:ownV 3 [] ⟨[some (Sx t),some (.int a),some (stopsV K),none,none,none,none,none,none,none],none⟩ = some ⟨[some (Sx t),some (.int a),some (stopsV K),none,none,none,none,none,none,none],some (3,[])⟩:=by simp
  delta pst;simp! []
noncomputable def bkst (t:List Nat) (a b p:Int) (x4:Option PyData):Store:=⟨[some (Sx t),some (.int a),some (.int b),some (.int p),x4],none⟩
noncomputable def btail:Store→Option Out :=
  sCons (sIte (tCmp (ordD fun a b=>decide (b ≤ a)) (getV 3) (dOn lenD (getV 0)))
    (sCons (sRaise "missing close-bracket") <|
    sNil)
    (sNil)) <|
  sCons (sRet (dTup (aCons (dCut (getV 0) (pOf (getV 2)) (pOf (getV 3))) (aCons (dBin addD (getV 3) (dK (.int 1))) aNil)))) <|
  sNil
theorem fn_brl (hn:6 ≤ n) (ht:Small t) (h91:91 :: s <:+ t) {R:Option (Except Str PyData)}
    (h:(sbind (loopN lc_brackets_1 (lb_brackets_1 (Φ n)) bigN (bkst t (pos t (91 :: s)) (pos t s) (pos t (skipCmd false s)) none)) btail).map outR = R) :
    Φ (n + 1) "brackets" [Sx t,.int (pos t (91 :: s))] = R:=by
  rw [phi_brackets (by lia)]
  subst h
  have e4:=pos_cons t 91 s
  have hsk:=skip_to_command_ok (n:=n) hn ht (suf_tail h91)
  have:den_brackets (Φ n) = sCons (sAsg 2 (dBin addD (getV 1) (dK (.int 1)))) (sCons (sAsg 3 (dCall (Φ n) "skip_to_command" (aCons (getV 0) (aCons (getV 2) aNil)))) (sCons (sWhile lc_brackets_1 (lb_brackets_1 (Φ n))) btail)):=rfl
  rw [this]
  refine congrArg (Option.map outR) ?_
  delta bkst;simp! []
theorem bk_nil (ht:Small t) (a b:Int) (x4:Option PyData):(sbind (some (bkst t a b (pos t []) x4,.nxt)) btail).map outR = some (.error mBr):=by
  have hl:=lenD_mk ht
  show (btail _).map outR = _
  apply m_exc;delta btail bkst;simp! [pos_nil]
theorem bk_close {s0:List Nat} (ht:Small t) (hs:93 :: s <:+ s0) (h0:s0 <:+ t) (a:Int) (x4:Option PyData):(sbind (some (bkst t a (pos t s0) (pos t (93 :: s)) x4,.nxt)) btail).map outR = ret' (.tuple [Sx (btw s0 (93 :: s)),.int (pos t s)]):=by
  have hl:=lenD_mk ht
  have hlt:¬ (t.length:Int) ≤ pos t (93 :: s):=by unfold pos;simp;lia
  have ec:=cut_btw h0 hs ht
  have e4:=pos_cons t 93 s
  show (btail _).map outR = _
  apply m_ret;delta btail bkst;simp! [hlt]
theorem bkc_nil (ht:Small t) (a b:Int) (x4:Option PyData):lc_brackets_1 (bkst t a b (pos t []) x4) = ret' false:=by
  have hl:=lenD_mk ht
  have h1:tCmp (ordD fun a b=>decide (a < b)) (getV 3) (dOn lenD (getV 0)) (bkst t a b (pos t []) x4) = ret' false:=t_cmp (a:=.int (pos t [])) (b:=.int t.length) rfl (v_on (a:=Sx t) rfl hl) (ord_of (by rw [pos_nil];simp))
  exact t_andF h1
theorem bkc_cons {c:Nat} (ht:Small t) (h:c :: s <:+ t) (a b:Int) (x4:Option PyData):lc_brackets_1 (bkst t a b (pos t (c :: s)) x4) = ret' (!(c == 93)):=by
  have hl:=lenD_mk ht
  have e1:=pos_lt t (c :: s)
  simp only [List.isEmpty_cons,Bool.not_false] at e1
  have e2:=item_at h ht
  cases hc:c == 93 <;> simp only [Bool.not_true,Bool.not_false] <;> (delta lc_brackets_1 bkst;simp! only [hc])
theorem bkb_err {Ψ:Oracle} {τ:Str} (a b p:Int) (x4:Option PyData) (h:Ψ "command_at" [Sx t,.int p,.bool true] = some (.error τ)):lb_brackets_1 Ψ (bkst t a b p x4) = some (bkst t a b p x4,.exc τ):=by
  (delta lb_brackets_1 bkst;simp! [])
theorem itT3 (a b c d:PyData):itemD (.tuple [a,b,c,d]) (.int 3) = some d:=by
  unfold itemD
  dsimp only
  rw [if_pos (by decide),seqIndex_nat (by lia) (by simp)];rfl
theorem bkb_ok {r:List Nat} (hn:6 ≤ n) (ht:Small t) (hr:r <:+ t) (a b p:Int) (x4:Option PyData) {x y z:PyData} (h:Φ n "command_at" [Sx t,.int p,.bool true] = ret' (.tuple [x,y,z,.int (pos t r)])) :
    lb_brackets_1 (Φ n) (bkst t a b p x4) = some (bkst t a b (pos t (skipCmd false r)) (some (.tuple [x,y,z,.int (pos t r)])),.nxt):=by
  have hsk:=skip_to_command_ok (n:=n) hn ht hr
  have i3:=itT3 x y z (.int (pos t r))
  (delta lb_brackets_1 bkst;simp! [])
theorem body_pos (t s:List Nat):(if isExp s then pos t s + 3 else pos t s) = pos t (body s):=by
  unfold body
  split
  · rename_i he
    have:=isExp_len he
    unfold pos;simp;lia
  · rfl
theorem w_start (hn:7 ≤ n) (ht:Small t) (h:s <:+ t) (b:Bool) {rest:Store→Option Out} {R:Option (Except Str PyData)}
    (hr:(rest ⟨[some (Sx t),some (.int (pos t (body s))),some (.bool b),some (.bool (isExp s)),some (Sx ((body s).take 1)),none,none,none,none],none⟩).map outR = R) :
    ((sCons (sAsg 3 (dCall (Φ n) "is_expanded" (aCons (getV 0) (aCons (getV 1) aNil)))) (sCons (sIte (tPlain (getV 3)) (sCons (sAug addD 1 (dK (.int 3))) sNil) sNil) (sCons (sAsg 4 (dCut (getV 0) (pOf (getV 1)) (pOf (dBin addD (getV 1) (dK (.int 1)))))) rest))) ⟨[some (Sx t),some (.int (pos t s)),some (.bool b),none,none,none,none,none,none],none⟩).map outR = R:=by
  subst hr
  have hx:=is_expanded_ok hn ht h
  have hb:=body_pos t s
  have e3:=cut1 ((body_suf s).trans h) ht
  cases he:isExp s
  · rw [he] at hb hx
    simp only [Bool.false_eq_true,if_false] at hb
    rw [hb] at hx ⊢
    refine congrArg (Option.map outR) ?_
    simp! []
  · rw [he] at hb hx
    simp only [if_true] at hb
    refine congrArg (Option.map outR) ?_
    simp! []
noncomputable def wrest (Φ:Oracle):Store→Option Out :=
  sCons (sIte (tCmp eqD (getV 4) (dK (.str "{")))
    (sCons (sUnp [5,6] (dCall Φ "braces" (aCons (getV 0) (aCons (getV 1) aNil)))) <|
    sCons (sIte (tCmp eqD (getV 5) (dK (.str "")))
      (sCons (sRet (dTup (aCons (dTup (aCons (getV 3) (aCons (dTup aNil) aNil))) (aCons (getV 6) aNil)))) <|
      sNil)
      (sNil)) <|
    sCons (sRet (dTup (aCons (dTup (aCons (getV 3) (aCons (dTup (aCons (dTup (aCons (dK (.str "text")) (aCons (getV 5) aNil))) aNil)) aNil))) (aCons (getV 6) aNil)))) <|
    sNil)
    (sNil)) <|
  sCons (sIte (tCmp eqD (getV 4) (dK (.str "\"")))
    (sCons (sUnp [7,8] (dCall Φ "parts_until" (aCons (getV 0) (aCons (dBin addD (getV 1) (dK (.int 1))) (aCons (dTup (aCons (dK (.str "\"")) aNil)) aNil))))) <|
    sCons (sIte (tCmp (ordD fun a b=>decide (b ≤ a)) (getV 8) (dOn lenD (getV 0)))
      (sCons (sRaise "missing \"") <|
      sNil)
      (sNil)) <|
    sCons (sRet (dTup (aCons (dTup (aCons (getV 3) (aCons (getV 7) aNil))) (aCons (dBin addD (getV 8) (dK (.int 1))) aNil)))) <|
    sNil)
    (sNil)) <|
  sCons (sUnp [7,6] (dCall Φ "parts_until" (aCons (getV 0) (aCons (getV 1) (aCons (dCall Φ "bare_stops" (aCons (getV 2) aNil)) aNil))))) <|
  sCons (sRet (dTup (aCons (dTup (aCons (getV 3) (aCons (getV 7) aNil))) (aCons (getV 6) aNil)))) <|
  sNil
noncomputable def wst (t s u:List Nat) (b:Bool):Store:=⟨[some (Sx t),some (.int (pos t u)),some (.bool b),some (.bool (isExp s)),some (Sx (u.take 1)),none,none,none,none],none⟩
theorem fn_word (hn:7 ≤ n) (ht:Small t) (h:s <:+ t) (b:Bool) {R:Option (Except Str PyData)} (hr:(wrest (Φ n) (wst t s (body s) b)).map outR = R):Φ (n + 1) "word" [Sx t,.int (pos t s),.bool b] = R:=by
  rw [phi_word (by lia)]
  exact w_start hn ht h b hr
theorem wr_brace (hn:7 ≤ n) (ht:Small t) {u:List Nat} (hu:123 :: u <:+ t) (b:Bool) :
    (wrest (Φ n) (wst t s (123 :: u) b)).map outR = (match brc 0 false [] u with
      | some (x,r)=>ret' (.tuple [wordD (isExp s) (fin x []),.int (pos t r)])
      | none=>some (.error mBrace)):=by
  have hb:=braces_ok hn ht hu
  cases hq:brc 0 false [] u with
  | none=>rw [hq] at hb;change (wrest _ _).map outR = some (.error "missing close-brace");simp only [outB] at hb;apply m_exc;delta wrest wst;simp! []
  | some p =>
    obtain ⟨x,r⟩:=p
    rw [hq] at hb
    simp only [outB,pairD] at hb
    by_cases hx:x = []
    · subst hx;apply m_ret;delta wrest wst;simp! []
    · have hx':(x == []) = false:=by simpa using hx
      have ef:fin x [] = [textD x]:=by simp [fin,hx]
      simp only [ef]
      apply m_ret;delta wrest wst;simp! [hx']
theorem wr_quote (ht:Small t) {Ψ:Oracle} {u:List Nat} {R:Rs} (b:Bool) (hR:Ψ "parts_until" [Sx t,.int (pos t u),stopsV .quote] = encP t R) (hend:∀ v m r,R = .ok v m r→r = [] ∨ ∃ w,r = 34 :: w) :
    (wrest Ψ (wst t s (34 :: u) b)).map outR = (match R with
      | .ok v _ (_ :: r)=>ret' (.tuple [wordD (isExp s) v,.int (pos t r)])
      | .ok _ _ []=>some (.error mQuote)
      | .err τ _=>some (.error τ)):=by
  have e4:=pos_cons t 34 u
  have hl:=lenD_mk ht
  change Ψ "parts_until" [Sx t,.int (pos t u),.tuple [.str "\""]] = _ at hR
  cases R with
  | err τ r=>simp only [encP] at hR;apply m_exc;delta wrest wst;simp! []
  | ok v m r =>
    simp only [encP] at hR
    rcases hend v m r rfl with rfl | ⟨w,rfl⟩
    · apply m_exc;delta wrest wst;simp! [pos_nil]
    · have e7:=pos_cons t 34 w
      have hlt:¬ (t.length:Int) ≤ pos t (34 :: w):=by unfold pos;simp;lia
      apply m_ret;delta wrest wst;simp! [hlt]
theorem wr_bare (hn:4 ≤ n) {u:List Nat} {R:Rs} (b:Bool) (h123:u.head? ≠ some 123) (h34:u.head? ≠ some 34) (hR:Φ n "parts_until" [Sx t,.int (pos t u),stopsV (.bare b)] = encP t R) :
    (wrest (Φ n) (wst t s u b)).map outR = (match R with
      | .ok v _ r=>ret' (.tuple [wordD (isExp s) v,.int (pos t r)])
      | .err τ _=>some (.error τ)):=by
  have q1:=take1_ne h123
  have q2:=take1_ne h34
  have hb:=bare_stops_ok hn b
  simp only [stopsV] at hR
  cases R with
  | err τ r=>simp only [encP] at hR;apply m_exc;delta wrest wst;simp! [q1,q2]
  | ok v m r=>simp only [encP] at hR;apply m_ret;delta wrest wst;simp! [q1,q2]
end
end Mine
end
section
set_option tactic.hygienic false
open PySem PySem.W PyProof.Rows PySem.Spec PySem.Calls PySem.Builtin PySem.Builtin.Str
namespace Mine
noncomputable def cst (t:List Nat) (a:Int) (b:Bool) (s0 s:List Nat) (acc:List PyData) (x7 x8:Option PyData):Store :=
  ⟨[some (Sx t),some (.int a),some (.bool b),some (.int (pos t s0)),some (.int t.length),none,some (.int (pos t s)),x7,x8],some (5,acc)⟩
section
variable {n:Nat} {t s s0 e:List Nat} {a:Int} {b:Bool} {acc:List PyData} {x7 x8:Option PyData} {w:PyData}
theorem cc_true:lc_command_at_1 (cst t a b s0 s acc x7 x8) = ret' true:=by simp [lc_command_at_1]
theorem cb_err {Ψ:Oracle} {τ:Str} (h:Ψ "word" [Sx t,.int (pos t s),.bool b] = some (.error τ)):lb_command_at_1 Ψ (cst t a b s0 s acc x7 x8) = some (cst t a b s0 s acc x7 x8,.exc τ):=by
  (delta lb_command_at_1 cst;simp! [h])
theorem cb_end (hn:5 ≤ n) (ht:Small t) (he:e <:+ t) (hl:acc.length ≤ 3000) (hw:lf w = true) (h:Φ n "word" [Sx t,.int (pos t s),.bool b] = ret' (.tuple [w,.int (pos t e)])) (hg:skipGaps e = []) :
    lb_command_at_1 (Φ n) (cst t a b s0 s acc x7 x8) = some (cst t a b s0 (skipGaps e) (acc ++ [w]) (some w) (some (.int (pos t e))),.ret (.tuple [.tuple (acc ++ [w]),.int (pos t s0),.int (pos t e),.int (pos t [])])):=by
  have hsg:=skip_gaps_ok hn ht he
  rw [hg,pos_nil] at hsg
  have h1:acc.length ≤ 1000000:=by lia
  have t1:=tupleF_small (ds:=acc ++ [w]) (by simp;lia)
  rw [hg,pos_nil]
  (delta lb_command_at_1 cst;simp! [h,hw,h1,hsg,t1])
theorem nlsc (c:Nat):inD (Sx [c]) (.tuple [Sx [10],Sx [59]]) = some (decide (c = 10 ∨ c = 59)):=(strs_any (k:=[[10],[59]]) rfl).trans (by simp)
theorem cb_nl (hn:5 ≤ n) (ht:Small t) (he:e <:+ t) (hl:acc.length ≤ 3000) (hw:lf w = true) (h:Φ n "word" [Sx t,.int (pos t s),.bool b] = ret' (.tuple [w,.int (pos t e)])) {c:Nat} {r:List Nat} (hg:skipGaps e = c :: r) (hc:c = 10 ∨ c = 59) :
    lb_command_at_1 (Φ n) (cst t a b s0 s acc x7 x8) = some (cst t a b s0 (skipGaps e) (acc ++ [w]) (some w) (some (.int (pos t e))),.ret (.tuple [.tuple (acc ++ [w]),.int (pos t s0),.int (pos t e),.int (pos t r)])):=by
  have hsg:=skip_gaps_ok hn ht he
  rw [hg] at hsg
  have h1:acc.length ≤ 1000000:=by lia
  have t1:=tupleF_small (ds:=acc ++ [w]) (by simp;lia)
  have hr:c :: r <:+ t:=(hg ▸ skipGaps_suf e).trans he
  have e2:=item_at hr ht
  have hlt:¬ (t.length:Int) ≤ pos t (c :: r):=by unfold pos;simp;lia
  have e4:=pos_cons t c r
  have o:=nlsc c
  rw [hg]
  (delta lb_command_at_1 cst;simp! [h,hw,h1,hsg,t1,hlt,e2,e4,o,hc])
theorem cb_cl (hn:5 ≤ n) (ht:Small t) (he:e <:+ t) (hl:acc.length ≤ 3000) (hw:lf w = true) (h:Φ n "word" [Sx t,.int (pos t s),.bool true] = ret' (.tuple [w,.int (pos t e)])) {r:List Nat} (hg:skipGaps e = 93 :: r) :
    lb_command_at_1 (Φ n) (cst t a true s0 s acc x7 x8) = some (cst t a true s0 (skipGaps e) (acc ++ [w]) (some w) (some (.int (pos t e))),.ret (.tuple [.tuple (acc ++ [w]),.int (pos t s0),.int (pos t e),.int (pos t (93 :: r))])):=by
  have hsg:=skip_gaps_ok hn ht he
  rw [hg] at hsg
  have h1:acc.length ≤ 1000000:=by lia
  have t1:=tupleF_small (ds:=acc ++ [w]) (by simp;lia)
  have hr:93 :: r <:+ t:=(hg ▸ skipGaps_suf e).trans he
  have e2:=item_at hr ht
  have hlt:¬ (t.length:Int) ≤ pos t (93 :: r):=by unfold pos;simp;lia
  have o:=nlsc 93
  rw [hg]
  (delta lb_command_at_1 cst;simp! [h,hw,h1,hsg,t1,hlt,e2,o])
theorem cb_x (hn:5 ≤ n) (ht:Small t) (hst:s <:+ t) (he:e <:+ s) (hlt':e.length < s.length) (hl:acc.length ≤ 3000) (hw:lf w = true) (h:Φ n "word" [Sx t,.int (pos t s),.bool b] = ret' (.tuple [w,.int (pos t e)])) {c:Nat} {r:List Nat} (hec:e = c :: r)
    (hg:skipGaps e = e) (h10:c ≠ 10) (h59:c ≠ 59) (h93:b = true→c ≠ 93) :
    lb_command_at_1 (Φ n) (cst t a b s0 s acc x7 x8) = some (cst t a b s0 (skipGaps e) (acc ++ [w]) (some w) (some (.int (pos t e))),.exc (extraT (btw s e))):=by
  have het:=he.trans hst
  have hsg:=skip_gaps_ok hn ht het
  rw [hg] at hsg
  have h1:acc.length ≤ 1000000:=by lia
  have e2:=item_at (hec ▸ het) ht
  have hlt:¬ (t.length:Int) ≤ pos t e:=by rw [hec];unfold pos;simp;lia
  have o:=nlsc c
  have hc:¬ (c = 10 ∨ c = 59):=not_or.mpr ⟨h10,h59⟩
  obtain ⟨p,hp⟩:=he
  have hpne:p ≠ []:=fun q=>by subst q;simp at hp;rw [hp] at hlt';exact Nat.lt_irrefl _ hlt'
  obtain ⟨p',d,rfl⟩:∃ p' d,p = p' ++ [d]:=⟨p.dropLast,p.getLast hpne,(List.dropLast_concat_getLast hpne).symm⟩
  have hde:d :: e <:+ t:=(show d :: e <:+ s from ⟨p',by rw [← hp];simp⟩).trans hst
  have e3:=item_at hde ht
  have e4:=pos_sub1 t d e
  have hb:btw s e = p' ++ [d]:=by rw [← hp,btw_app]
  have hx:extraT (btw s e) = if d = 34 then xQuote else xBrace:=by rw [hb];unfold extraT;simp
  rw [hx]
  rw [← hec] at e2
  rw [hg]
  have q93:b = true→(c == 93) = false:=fun q=>by simpa using h93 q
  by_cases hd:d = 34
  · subst hd
    rw [if_pos rfl]
    cases b with
    | false=>(delta lb_command_at_1 cst;simp! [hlt,o,hc])
    | true=>(delta lb_command_at_1 cst;simp! [hlt,o,hc,q93 rfl])
  · rw [if_neg hd]
    cases b with
    | false=>(delta lb_command_at_1 cst;simp! [hlt,o,hc,hd])
    | true=>(delta lb_command_at_1 cst;simp! [hlt,o,hc,hd,q93 rfl])
theorem cb_next (hn:5 ≤ n) (ht:Small t) (het:e <:+ t) (hl:acc.length ≤ 3000) (hw:lf w = true) (h:Φ n "word" [Sx t,.int (pos t s),.bool b] = ret' (.tuple [w,.int (pos t e)])) {c:Nat} {r:List Nat}
    (hg:skipGaps e = c :: r) (hlt':(c :: r).length < e.length) (h10:c ≠ 10) (h59:c ≠ 59) (h93:b = true→c ≠ 93) :
    lb_command_at_1 (Φ n) (cst t a b s0 s acc x7 x8) = some (cst t a b s0 (c :: r) (acc ++ [w]) (some w) (some (.int (pos t e))),.nxt):=by
  have hsg:=skip_gaps_ok hn ht het
  rw [hg] at hsg
  have h1:acc.length ≤ 1000000:=by lia
  have hr:c :: r <:+ t:=(hg ▸ skipGaps_suf e).trans het
  have e2:=item_at hr ht
  have hlt:¬ (t.length:Int) ≤ pos t (c :: r):=by unfold pos;simp;lia
  have o:=nlsc c
  have hc:¬ (c = 10 ∨ c = 59):=not_or.mpr ⟨h10,h59⟩
  have hne:(pos t (c :: r) == pos t e) = false:=by rw [beq_eq_false_iff_ne];unfold pos;lia
  cases b with
  | false=>(delta lb_command_at_1 cst;simp! [h,hw,h1,hsg,hlt,e2,o,hc,hne])
  | true =>
    have q93:(c == 93) = false:=by simpa using h93 rfl
    (delta lb_command_at_1 cst;simp! [h,hw,h1,hsg,hlt,e2,o,hc,hne,q93])
noncomputable def ctail (o:Option Out):Option (Except Str PyData):=(sbind o sNil).map outR
theorem fn_ws (hn:6 ≤ n) (ht:Small t) {u:List Nat} (hu:u <:+ t) (hs:WsAt b (skipCmd false u)) {R:Option (Except Str PyData)}
    (h:(loopN lc_command_at_1 (lb_command_at_1 (Φ n)) bigN (cst t (pos t u) b (skipCmd false u) (skipCmd false u) [] none none)).map outR = R) (hR:∀ σ,loopN lc_command_at_1 (lb_command_at_1 (Φ n)) bigN (cst t (pos t u) b (skipCmd false u) (skipCmd false u) [] none none) ≠ some (σ,.nxt)) :
    Φ (n + 1) "command_at" [Sx t,.int (pos t u),.bool b] = R:=by
  rw [phi_command_at (by lia)]
  subst h
  have hsk:=skip_to_command_ok (n:=n) hn ht hu
  have hl:=lenD_mk ht
  have hsuf:=(skipCmd_suf false u).trans hu
  obtain ⟨c,r,hc,_,_,_,h93⟩:=hs
  rw [hc] at hsk hsuf hR ⊢
  have e2:=item_at hsuf ht
  have hlt:¬ (t.length:Int) ≤ pos t (c :: r):=by unfold pos;simp;lia
  have key:∀ o:Option Out,(∀ σ,o ≠ some (σ,.nxt))→(sbind o sNil).map outR = o.map outR:=fun o ho=>by
    cases o with
    | none=>rfl
    | some p =>
      obtain ⟨σ,f⟩:=p
      cases f with
      | nxt=>exact absurd rfl (ho σ)
      | brk=>rfl
      | ret d=>rfl
      | exc τ=>rfl
  rw [← key _ hR]
  refine congrArg (Option.map outR) ?_
  cases b with
  | false=>(delta den_command_at;simp! [hlt])
  | true =>
    have q93:(c == 93) = false:=by simpa using h93 rfl
    (delta den_command_at;simp! [hlt,q93])
theorem fn_none (hn:6 ≤ n) (ht:Small t) {u:List Nat} (hu:u <:+ t) (hs:skipCmd false u = [] ∨ (b = true∧∃ r,skipCmd false u = 93 :: r)):Φ (n + 1) "command_at" [Sx t,.int (pos t u),.bool b] = ret' .none:=by
  rw [phi_command_at (by lia)]
  have hsk:=skip_to_command_ok (n:=n) hn ht hu
  have hl:=lenD_mk ht
  have hsuf:=(skipCmd_suf false u).trans hu
  rcases hs with h | ⟨rfl,r,h⟩
  · rw [h,pos_nil] at hsk
    have h1:tCmp (ordD fun a b=>decide (b ≤ a)) (getV 3) (getV 4) ⟨[some (Sx t),some (.int (pos t u)),some (.bool b),some (.int t.length),some (.int t.length),none,none,none,none],none⟩ = ret' true:=by simp
    have hT:(tOr (tCmp (ordD fun a b=>decide (b ≤ a)) (getV 3) (getV 4)) (tOr (tAnd (tPlain (getV 2)) (tAnd (tCmp eqD (dIdx (getV 0) (getV 3)) (dK (Sx [93]))) tAnd0)) tOr0)) ⟨[some (Sx t),some (.int (pos t u)),some (.bool b),some (.int t.length),some (.int t.length),none,none,none,none],none⟩ = ret' true:=by
      show bnd (tCmp _ _ _ _) _ = _
      rw [h1];rfl
    (apply m_ret;delta den_command_at;simp! [hsk,hl,hT,-tOr,-tAnd])
  · rw [h] at hsk hsuf
    have e2:=item_at hsuf ht
    have hlt:¬ (t.length:Int) ≤ pos t (93 :: r):=by unfold pos;simp;lia
    (apply m_ret;delta den_command_at;simp! [hsk,hl,hlt,e2])
end
end Mine
end
section
set_option tactic.hygienic false
open PySem PySem.W PyProof.Rows PySem.Spec PySem.Calls PySem.Builtin PySem.Builtin.Str
namespace Mine
theorem bs_len (s:List Nat):(bs s).1.length = 1:=by
  unfold bs
  split
  · rfl
  · split
    · rfl
    · split
      · rfl
      · split
        · unfold hexS;split <;> rfl
        · split <;> rfl
theorem lf_of1 {w:PyData} (h:lfs [w] = true):lf w = true:=by simpa using h
noncomputable def Sem (n:Nat):Call→Rs→Prop
  | .pts K s run acc,R=>∀ t,Small t→s <:+ t→∀ N,s.length < N→∀ x6 x7 x8 x9,run.length + s.length ≤ 1000→acc.length + 2 * s.length ≤ 2500 →
      (sbind (loopN lc_parts_until_2 (lb_parts_until_2 (Φ (n + 8))) N (pst t K (pos t s) run acc x6 x7 x8 x9)) ptail).map outR = encP t R
  | .var s,R=>∀ t,Small t→36 :: s <:+ t→Φ (n + 9) "variable" [Sx t,.int (pos t (36 :: s))] = enc1 t R
  | .brl s,R=>∀ t,Small t→∀ s0,s <:+ s0→s0 <:+ t→CmdAt s→∀ N,s.length < N→∀ a x4,(sbind (loopN lc_brackets_1 (lb_brackets_1 (Φ (n + 8))) N (bkst t a (pos t s0) (pos t s) x4)) btail).map outR = encB t s0 R
  | .word b s,R=>∀ t,Small t→s <:+ t→Φ (n + 9) "word" [Sx t,.int (pos t s),.bool b] = enc1 t R
  | .ws b s acc,R=>∀ t,Small t→∀ s0,s <:+ s0→s0 <:+ t→WsAt b s→∀ N,s.length < N→∀ a x7 x8,acc.length + s.length ≤ 2000 →
      (loopN lc_command_at_1 (lb_command_at_1 (Φ (n + 8))) N (cst t a b s0 s acc x7 x8)).map outR = encC t s0 R∧∀ σ,loopN lc_command_at_1 (lb_command_at_1 (Φ (n + 8))) N (cst t a b s0 s acc x7 x8) ≠ some (σ,.nxt)
theorem fin_len (run:List Nat) (acc:List PyData):(fin run acc).length ≤ acc.length + 1:=by
  unfold fin;split <;> simp
theorem lb_of {Ψ:Oracle} {σ σ1:Store} {o:Option Out} (h1:pA Ψ σ = some (σ1,.nxt)) (h2:pB σ1 = o):lb_parts_until_2 Ψ σ = o:=by
  rw [lb_split];show sbind (pA Ψ σ) pB = o;rw [h1];exact h2
theorem lb_of_e {Ψ:Oracle} {σ σ1:Store} {τ:Str} (h1:pA Ψ σ = some (σ1,.exc τ)):lb_parts_until_2 Ψ σ = some (σ1,.exc τ):=by
  rw [lb_split];show sbind (pA Ψ σ) pB = _;rw [h1];rfl
theorem lb_of_b {Ψ:Oracle} {σ σ1:Store} (h1:pA Ψ σ = some (σ1,.brk)):lb_parts_until_2 Ψ σ = some (σ1,.brk):=by
  rw [lb_split];show sbind (pA Ψ σ) pB = _;rw [h1];rfl
theorem fn_of_pts {n:Nat} {K:Kd} {s:List Nat} {R:Rs} (h:Sem n (.pts K s [] []) R) {t:List Nat} (ht:Small t) (hs:s <:+ t):Φ (n + 9) "parts_until" [Sx t,.int (pos t s),stopsV K] = encP t R:=by
  have hl:=suf_len hs
  have hz:s.length ≤ 1000:=Nat.le_trans hl ht
  exact fn_pts (by lia) ht _ (h t ht hs bigN (bigN_lt hs ht) none none none none (by simpa using hz) (by simp;lia))
theorem fn_of_brl {n:Nat} {s:List Nat} {R:Rs} (h:Sem n (.brl (skipCmd false s)) R) {t:List Nat} (ht:Small t) (hs:91 :: s <:+ t):Φ (n + 9) "brackets" [Sx t,.int (pos t (91 :: s))] = encB t s R :=
  fn_brl (by lia) ht hs (h t ht s (skipCmd_suf _ _) (suf_tail hs) (skipCmd_at _ _) bigN (bigN_lt ((skipCmd_suf _ _).trans (suf_tail hs)) ht) _ none)
theorem fn_of_ws {n:Nat} {b:Bool} {u:List Nat} {R:Rs} (h:Sem n (.ws b (skipCmd false u) []) R) {t:List Nat} (ht:Small t) (hu:u <:+ t) (hw:WsAt b (skipCmd false u)) :
    Φ (n + 9) "command_at" [Sx t,.int (pos t u),.bool b] = encC t (skipCmd false u) R:=by
  have hs:=(skipCmd_suf false u).trans hu
  have hl:=suf_len hs
  have hz:(skipCmd false u).length ≤ 1000:=Nat.le_trans hl ht
  have:=h t ht (skipCmd false u) (List.suffix_refl _) hs hw bigN (bigN_lt hs ht) (pos t u) none none (by simp;lia)
  exact fn_ws (by lia) ht hu hw this.1 this.2
theorem pmap {l l':Option Out} {K:Store→Option Out} {r:Res PyData} (h:l = l') (k:(sbind l' K).map outR = r):(sbind l K).map outR = r:=h ▸ k
theorem lmap {l l':Option Out} {r:Res PyData} (h:l = l') (k:l'.map outR = r∧∀ σ,l' ≠ some (σ,.nxt)):l.map outR = r∧∀ σ,l ≠ some (σ,.nxt):=h ▸ k
theorem ns36 (K:Kd):stop K 36 = false:=by cases K with | bare b=>cases b <;> rfl | _=>rfl
theorem ns91 (K:Kd):stop K 91 = false:=by cases K with | bare b=>cases b <;> rfl | _=>rfl
theorem ns92 (K:Kd):stop K 92 = false:=by cases K with | bare b=>cases b <;> rfl | _=>rfl
theorem bnot_f {b:Bool} (h:b = false):ret' (!b) = ret' true:=by rw [h];rfl
theorem la1 {run r s:List Nat} {x B:Nat} (h:run.length + (x :: s).length ≤ B) (k:r.length ≤ s.length):(run ++ [x]).length + r.length ≤ B:=by
  rw [List.length_append];simp only [List.length_cons,List.length_nil] at h ⊢;lia
theorem la2 {acc:List PyData} {r s:List Nat} {x B:Nat} (h:acc.length + 2 * (x :: s).length ≤ B) (k:r.length ≤ s.length):acc.length + 2 * r.length ≤ B:=by
  simp only [List.length_cons] at h;lia
theorem la3 {acc:List PyData} {p:PyData} {run r s:List Nat} {x B:Nat} (h:acc.length + 2 * (x :: s).length ≤ B) (k:r.length ≤ s.length):(fin run acc ++ [p]).length + 2 * r.length ≤ B:=by
  have:=fin_len run acc
  rw [List.length_append];simp only [List.length_cons,List.length_nil] at h ⊢;lia
theorem la4 {run r s:List Nat} {x B:Nat} (h:run.length + (x :: s).length ≤ B) (k:r.length ≤ s.length):([]:List Nat).length + r.length ≤ B:=by
  simp only [List.length_cons,List.length_nil] at h ⊢;lia
theorem la5 {r s:List Nat} {x N:Nat} (h:(x :: s).length < N + 1) (k:r.length ≤ s.length):r.length < N:=Nat.lt_of_le_of_lt k (Nat.lt_of_succ_lt_succ h)
theorem la6 {acc:List PyData} {a B:Nat} (h:acc.length + a ≤ B):acc.length ≤ B:=Nat.le_trans (Nat.le_add_right _ _) h
theorem la7 {run s:List Nat} {x:Nat} (h:run.length + (x :: s).length ≤ 1000) {y:Nat}:(run.length + [y].length) ≤ 10000:=by simp only [List.length_cons,List.length_nil] at h ⊢;lia
theorem la8 {acc:List PyData} {a:Nat} (h:acc.length + a ≤ 2500):acc.length ≤ 3000:=Nat.le_trans (Nat.le_trans (Nat.le_add_right _ _) h) (by decide)
theorem sem {n:Nat} {k:Call} {R:Rs} (h:P n k R):k.lf→Sem n k R:=by
  induction h with
  | p_nil =>
    intro _ t ht hs N hN x6 x7 x8 x9 hr ha
    rcases N with _ | N
    · exact absurd hN (Nat.not_lt_zero _)
    exact pmap (loop_end (pc_nil ..)) (ptail_ok (by lia))
  | p_stop hst =>
    intro _ t ht hs N hN x6 x7 x8 x9 hr ha
    rcases N with _ | N
    · exact absurd hN (Nat.not_lt_zero _)
    exact pmap (loop_end (by rw [pc_cons ht hs,hst];rfl)) (ptail_ok (by lia))
  | @p_varT n K s r run acc R h1 h2 i1 i2 =>
    intro hA t ht hs N hN x6 x7 x8 x9 hr ha
    rcases N with _ | N
    · exact absurd hN (Nat.not_lt_zero _)
    have hrs:r <:+ s:=h1.suf.2
    have hle:=hrs.length_le
    have hv:=i1 trivial t ht hs
    have hst':=ns36 K
    exact pmap (loop_nxt ((pc_cons ht hs).trans (bnot_f hst')) (lb_of (pA_var (r:=r) (p:=textD [36]) ht hs hv rfl) (pB_text (la7 hr)))) (i2 hA t ht (hrs.trans (suf_tail hs)) N (la5 hN hle) _ _ _ _ (la1 hr hle) (la2 ha hle))
  | @p_varV n K s r run acc x i R h1 h2 i1 i2 =>
    intro hA t ht hs N hN x6 x7 x8 x9 hr ha
    rcases N with _ | N
    · exact absurd hN (Nat.not_lt_zero _)
    have hrs:r <:+ s:=h1.suf.2
    have hle:=hrs.length_le
    have hlv:=h1.lfs trivial
    have hlf:=lf_of1 hlv
    have hv:=i1 trivial t ht hs
    have hst':=ns36 K
    exact pmap (loop_nxt ((pc_cons ht hs).trans (bnot_f hst')) (lb_of (pA_var (r:=r) (p:=varD x i) ht hs hv hlf) (pB_part (p:=varD x i) rfl (by decide) hlf (la8 ha)))) (i2 (lfs_add (lfs_fin hA) hlv) t ht (hrs.trans (suf_tail hs)) N (la5 hN hle) _ _ _ _ (la4 hr hle) (la3 ha hle))
  | @p_varE n K s r run acc τ h1 i1 =>
    intro hA t ht hs N hN x6 x7 x8 x9 hr ha
    rcases N with _ | N
    · exact absurd hN (Nat.not_lt_zero _)
    have hv:=i1 trivial t ht hs
    have hst':=ns36 K
    exact pmap (loop_exc ((pc_cons ht hs).trans (bnot_f hst')) (lb_of_e (pA_varE ht hs hv))) rfl
  | @p_br n K s r run acc R h1 h2 i1 i2 =>
    intro hA t ht hs N hN x6 x7 x8 x9 hr ha
    rcases N with _ | N
    · exact absurd hN (Nat.not_lt_zero _)
    have hrs:r <:+ s:=h1.suf.2.trans (skipCmd_suf _ _)
    have hle:=hrs.length_le
    have hv:=fn_of_brl (i1 trivial) ht hs
    have hst':=ns91 K
    exact pmap (loop_nxt ((pc_cons ht hs).trans (bnot_f hst')) (lb_of (pA_br (r:=r) ht hs hv) (pB_part (p:=cmdD (btw s (93 :: r))) rfl (by decide) rfl (la8 ha)))) (i2 (lfs_add (lfs_fin hA) rfl) t ht (hrs.trans (suf_tail hs)) N (la5 hN hle) _ _ _ _ (la4 hr hle) (la3 ha hle))
  | @p_brE n K s r run acc τ h1 i1 =>
    intro hA t ht hs N hN x6 x7 x8 x9 hr ha
    rcases N with _ | N
    · exact absurd hN (Nat.not_lt_zero _)
    have hv:=fn_of_brl (i1 trivial) ht hs
    have hst':=ns91 K
    exact pmap (loop_exc ((pc_cons ht hs).trans (bnot_f hst')) (lb_of_e (pA_brE ht hs hv))) rfl
  | @p_brk n b s run acc =>
    intro hA t ht hs N hN x6 x7 x8 x9 hr ha
    rcases N with _ | N
    · exact absurd hN (Nat.not_lt_zero _)
    have hst':stop (.bare b) 92 = false:=by cases b <;> rfl
    exact pmap (loop_brk ((pc_cons ht hs).trans (bnot_f hst')) (lb_of_b (pA_brk rfl ht hs))) (ptail_ok (by lia))
  | @p_bs n K s run acc R hK h1 i1 =>
    intro hA t ht hs N hN x6 x7 x8 x9 hr ha
    rcases N with _ | N
    · exact absurd hN (Nat.not_lt_zero _)
    have hst':=ns92 K
    have hv:=backslash_ok (n:=n + 8) (by lia) ht hs
    have hbl:=bs_len s
    have hsu:=bs_suf s
    have hle:=hsu.length_le
    have hr:run.length + (s.length + 1) ≤ 1000:=hr
    have ha:acc.length + 2 * (s.length + 1) ≤ 2500:=ha
    have hN:s.length + 1 < N + 1:=hN
    exact pmap (loop_nxt ((pc_cons ht hs).trans (bnot_f hst')) (lb_of (pA_bs hK ht hs hv) (pB_text (by lia)))) (i1 hA t ht (hsu.trans (suf_tail hs)) N (by lia) _ _ _ _ (by simp;lia) (by lia))
  | @p_run n K c s run acc R hp h1 i1 =>
    intro hA t ht hs N hN x6 x7 x8 x9 hr ha
    rcases N with _ | N
    · exact absurd hN (Nat.not_lt_zero _)
    have hst':stop K c = false:=by
      unfold plainK at hp
      simp only [Bool.and_eq_true,Bool.not_eq_true'] at hp
      exact hp.2
    have hd:=List.dropWhile_suffix (plainK K) (l:=c :: s)
    have hll:((c :: s).takeWhile (plainK K)).length + ((c :: s).dropWhile (plainK K)).length = (c :: s).length:=by
      rw [← List.length_append,List.takeWhile_append_dropWhile]
    have hpos:0 < ((c :: s).takeWhile (plainK K)).length:=by rw [List.takeWhile_cons_of_pos hp];simp
    simp only [List.length_cons] at hr ha hN hll
    exact pmap (loop_nxt ((pc_cons ht hs).trans (bnot_f hst')) (lb_of (pA_run hp ht hs) (pB_text (by lia)))) (i1 hA t ht (hd.trans hs) N (by lia) _ _ _ _ (by rw [List.length_append];lia) (by lia))
  | v_brace h=>exact fun _ t ht hs=>var_brace (by lia) ht hs h
  | v_braceE h=>exact fun _ t ht hs=>var_braceE (by lia) ht hs h
  | @v_ix n s u ps m r h123 hu h1 i1 =>
    intro _ t ht hs
    have hus:u <:+ t:=(List.suffix_cons 40 u).trans ((hu ▸ nameR_suf false s).trans (suf_tail hs))
    have hp:=fn_of_pts (i1 rfl) ht hus
    exact var_ix (by lia) ht hs h123 hu hp (fun v m r e=>by cases e;exact .inr ⟨_,rfl⟩)
  | @v_ixM n s u ps m h123 hu h1 i1 =>
    intro _ t ht hs
    have hus:u <:+ t:=(List.suffix_cons 40 u).trans ((hu ▸ nameR_suf false s).trans (suf_tail hs))
    have hp:=fn_of_pts (i1 rfl) ht hus
    exact var_ix (by lia) ht hs h123 hu hp (fun v m r e=>by cases e;exact .inl rfl)
  | @v_ixE n s u τ r h123 hu h1 i1 =>
    intro _ t ht hs
    have hus:u <:+ t:=(List.suffix_cons 40 u).trans ((hu ▸ nameR_suf false s).trans (suf_tail hs))
    have hp:=fn_of_pts (i1 rfl) ht hus
    exact var_ix (by lia) ht hs h123 hu hp (fun v m r e=>by cases e)
  | v_none a b c=>exact fun _ t ht hs=>var_none (by lia) ht hs a b c
  | v_name a b c d=>exact fun _ t ht hs=>var_name (by lia) ht hs a b c d
  | @w_brace n b s v x r hb hx =>
    intro _ t ht hs
    have hv:123 :: v <:+ t:=hb ▸ (body_suf s).trans hs
    refine fn_word (by lia) ht hs b ?_
    rw [hb,wr_brace (by lia) ht hv b,hx]
    rfl
  | @w_braceE n b s v hb hx =>
    intro _ t ht hs
    have hv:123 :: v <:+ t:=hb ▸ (body_suf s).trans hs
    refine fn_word (by lia) ht hs b ?_
    rw [hb,wr_brace (by lia) ht hv b,hx]
    rfl
  | @w_quote n b s v ps m r hb h1 i1 =>
    intro _ t ht hs
    have hv:34 :: v <:+ t:=hb ▸ (body_suf s).trans hs
    have hp:=fn_of_pts (i1 rfl) ht (suf_tail hv)
    refine fn_word (by lia) ht hs b ?_
    rw [hb,wr_quote ht b hp (fun v m r e=>by cases e;exact .inr ⟨_,rfl⟩)]
    rfl
  | @w_quoteM n b s v ps m hb h1 i1 =>
    intro _ t ht hs
    have hv:34 :: v <:+ t:=hb ▸ (body_suf s).trans hs
    have hp:=fn_of_pts (i1 rfl) ht (suf_tail hv)
    refine fn_word (by lia) ht hs b ?_
    rw [hb,wr_quote ht b hp (fun v m r e=>by cases e;exact .inl rfl)]
    rfl
  | @w_quoteE n b s v τ r hb h1 i1 =>
    intro _ t ht hs
    have hv:34 :: v <:+ t:=hb ▸ (body_suf s).trans hs
    have hp:=fn_of_pts (i1 rfl) ht (suf_tail hv)
    refine fn_word (by lia) ht hs b ?_
    rw [hb,wr_quote ht b hp (fun v m r e=>by cases e)]
    rfl
  | @w_bare n b s ps m r h123 h34 h1 i1 =>
    intro _ t ht hs
    have hp:=fn_of_pts (i1 rfl) ht ((body_suf s).trans hs)
    refine fn_word (by lia) ht hs b ?_
    rw [wr_bare (by lia) b h123 h34 hp]
    rfl
  | @w_bareE n b s τ r h123 h34 h1 i1 =>
    intro _ t ht hs
    have hp:=fn_of_pts (i1 rfl) ht ((body_suf s).trans hs)
    refine fn_word (by lia) ht hs b ?_
    rw [wr_bare (by lia) b h123 h34 hp]
    rfl
  | @s_err n b s acc τ r h1 i1 =>
    intro hA t ht s0 hs h0 hw N hN a x7 x8 hl
    rcases N with _ | N
    · exact absurd hN (Nat.not_lt_zero _)
    have hp:=i1 trivial t ht (hs.trans h0)
    exact lmap (loop_exc cc_true (cb_err hp)) (⟨rfl,fun σ q=>by cases q⟩)
  | @s_end n b s acc w m e h1 hg i1 =>
    intro hA t ht s0 hs h0 hw N hN a x7 x8 hl
    rcases N with _ | N
    · exact absurd hN (Nat.not_lt_zero _)
    have hp:=i1 trivial t ht (hs.trans h0)
    have hes:e <:+ s:=h1.suf.1.trans h1.suf.2
    have hlf:=lf_of1 (h1.lfs trivial)
    exact lmap (loop_ret cc_true (cb_end (by lia) ht (hes.trans (hs.trans h0)) (by lia) hlf hp hg)) (⟨rfl,fun σ q=>by cases q⟩)
  | @s_nl n b s acc w m e c r h1 hg hc i1 =>
    intro hA t ht s0 hs h0 hw N hN a x7 x8 hl
    rcases N with _ | N
    · exact absurd hN (Nat.not_lt_zero _)
    have hp:=i1 trivial t ht (hs.trans h0)
    have hes:e <:+ s:=h1.suf.1.trans h1.suf.2
    have hlf:=lf_of1 (h1.lfs trivial)
    exact lmap (loop_ret cc_true (cb_nl (by lia) ht (hes.trans (hs.trans h0)) (by lia) hlf hp hg hc)) (⟨rfl,fun σ q=>by cases q⟩)
  | @s_cl n s acc w m e r h1 hg i1 =>
    intro hA t ht s0 hs h0 hw N hN a x7 x8 hl
    rcases N with _ | N
    · exact absurd hN (Nat.not_lt_zero _)
    have hp:=i1 trivial t ht (hs.trans h0)
    have hes:e <:+ s:=h1.suf.1.trans h1.suf.2
    have hlf:=lf_of1 (h1.lfs trivial)
    exact lmap (loop_ret cc_true (cb_cl (by lia) ht (hes.trans (hs.trans h0)) (by lia) hlf hp hg)) (⟨rfl,fun σ q=>by cases q⟩)
  | @s_x n b s acc w m e c r h1 hec hg h10 h59 h93 i1 =>
    intro hA t ht s0 hs h0 hw N hN a x7 x8 hl
    rcases N with _ | N
    · exact absurd hN (Nat.not_lt_zero _)
    have hp:=i1 trivial t ht (hs.trans h0)
    have hes:e <:+ s:=h1.suf.1.trans h1.suf.2
    have hlf:=lf_of1 (h1.lfs trivial)
    exact lmap (loop_exc cc_true (cb_x (by lia) ht (hs.trans h0) hes (word_lt hw h1) (by lia) hlf hp hec hg h10 h59 h93)) (⟨rfl,fun σ q=>by cases q⟩)
  | @s_next n b s acc w m e c r R h1 hg hlt h10 h59 h93 h2 i1 i2 =>
    intro hA t ht s0 hs h0 hw N hN a x7 x8 hl
    rcases N with _ | N
    · exact absurd hN (Nat.not_lt_zero _)
    have hp:=i1 trivial t ht (hs.trans h0)
    have hes:e <:+ s:=h1.suf.1.trans h1.suf.2
    have hlf:=lf_of1 (h1.lfs trivial)
    have hwl:=word_lt hw h1
    rw [loop_nxt cc_true (cb_next (by lia) ht (hes.trans (hs.trans h0)) (by lia) hlf hp hg hlt h10 h59 h93)]
    have hcr:c :: r <:+ e:=hg ▸ skipGaps_suf e
    exact i2 (lfs_add hA (h1.lfs trivial)) t ht s0 (hcr.trans (hes.trans hs)) h0 ⟨c,r,rfl,hg ▸ skipGaps_noGap _,h10,h59,h93⟩ N (by lia) a _ _ (by rw [List.length_append,List.length_singleton];lia)
  | b_end =>
    intro hA t ht s0 hs h0 hc N hN a x4
    rcases N with _ | N
    · exact absurd hN (Nat.not_lt_zero _)
    exact pmap (loop_end (bkc_nil ht ..)) (bk_nil ht ..)
  | @b_cl n s =>
    intro hA t ht s0 hs h0 hc N hN a x4
    rcases N with _ | N
    · exact absurd hN (Nat.not_lt_zero _)
    exact pmap (loop_end (bkc_cons ht (hs.trans h0) ..)) (bk_close ht hs h0 ..)
  | @b_cmd n c s v m r R h93 h1 h2 i1 i2 =>
    intro hA t ht s0 hs h0 hc N hN a x4
    rcases N with _ | N
    · exact absurd hN (Nat.not_lt_zero _)
    have hst:=hs.trans h0
    have q93:(c == 93) = false:=by simpa using h93
    have hcm:=skipCmd_of hc
    have hp:=fn_of_ws (n:=n) (b:=true) (u:=c :: s) (by rw [hcm];exact i1 rfl) ht hst (by rw [hcm];exact hc.wsAt h93)
    have hsf:r <:+ c :: s:=h1.suf.1.trans h1.suf.2
    have hsl:=(skipCmd_suf false r).length_le
    have hml:=ws_lt h1 rfl rfl (hc.wsAt h93)
    have hrl:r.length ≤ m.length:=h1.suf.1.length_le
    exact pmap (loop_nxt (by rw [bkc_cons ht hst,q93];rfl) (bkb_ok (by lia) ht (hsf.trans hst) a (pos t s0) _ x4 hp)) (i2 trivial t ht s0 ((skipCmd_suf _ _).trans (hsf.trans hs)) h0 (skipCmd_at _ _) N (by lia) a _)
  | @b_err n c s τ r h93 h1 i1 =>
    intro hA t ht s0 hs h0 hc N hN a x4
    rcases N with _ | N
    · exact absurd hN (Nat.not_lt_zero _)
    have hst:=hs.trans h0
    have q93:(c == 93) = false:=by simpa using h93
    have hcm:=skipCmd_of hc
    have hp:=fn_of_ws (n:=n) (b:=true) (u:=c :: s) (by rw [hcm];exact i1 rfl) ht hst (by rw [hcm];exact hc.wsAt h93)
    exact pmap (loop_exc (by rw [bkc_cons ht hst,q93];rfl) (bkb_err a (pos t s0) _ x4 hp)) rfl
end Mine
end
section
set_option tactic.hygienic false
open PySem
namespace Mine
noncomputable def Gd (x:Nat) (s:List Nat):Prop:=(x = 92→s.head? ≠ some 10)∧(x = 58→s.head? ≠ some 58)
noncomputable def Cm (c s:List Nat):Prop:=∀ x,c.getLast? = some x→Gd x s
theorem Cm.suf {c d s:List Nat} (h:Cm c s) (hd:d <:+ c):Cm d s:=fun x hx=>by
  obtain ⟨p,rfl⟩:=hd
  refine h x ?_
  cases d with
  | nil=>cases hx
  | cons a d=>rw [List.getLast?_append,hx];rfl
theorem Cm.one {x:Nat} {s:List Nat} (h:Cm [x] s):Gd x s:=h x rfl
theorem Cm.of93 (c s:List Nat):Cm (c ++ [93]) s:=fun x hx=>by
  have:93 = x:=by simpa using hx
  subst this
  exact ⟨fun q=>absurd q (by decide),fun q=>absurd q (by decide)⟩
theorem Cm.nil (c:List Nat):Cm c []:=fun x _=>⟨fun _ q=>(by cases q),fun _ q=>(by cases q)⟩
theorem Cm.semi (c s:List Nat):Cm c (59 :: s):=fun x _=>⟨fun _ q=>(by cases q),fun _ q=>(by cases q)⟩
theorem suf_split {r c s:List Nat} (h:r <:+ c ++ s) (hl:s.length ≤ r.length):∃ ρ,r = ρ ++ s∧ρ <:+ c:=by
  obtain ⟨p,hp⟩:=h
  have h2:s <:+ r:=List.suffix_of_suffix_length_le (List.suffix_append c s) ⟨p,hp⟩ hl
  obtain ⟨ρ,rfl⟩:=h2
  refine ⟨ρ,rfl,p,?_⟩
  rw [← List.append_assoc] at hp
  exact List.append_cancel_right hp
theorem btw_right {b a z:List Nat} (h:a <:+ b):btw (b ++ z) (a ++ z) = btw b a:=by
  obtain ⟨p,rfl⟩:=h
  rw [btw_app,show p ++ a ++ z = p ++ (a ++ z) by simp,btw_app]
theorem ne_of_len {ρ s:List Nat} (h:s.length < (ρ ++ s).length):ρ ≠ []:=fun q=>by subst q;simp at h
section
variable {s0 s1:List Nat}
theorem noGap_ag {c:List Nat} (hc:c ≠ []) (h0:Cm c s0) (h1:Cm c s1) (h:NoGap (c ++ s0)):NoGap (c ++ s1):=by
  cases c with
  | nil=>exact absurd rfl hc
  | cons x c =>
    refine ⟨h.1,fun s' hq=>?_⟩
    obtain ⟨rfl,hq⟩:=hq
    cases c with
    | nil=>exact h1.one.1 rfl (by simp at hq;rw [hq];rfl)
    | cons d c=>cases hq;exact h.2 _ ⟨rfl,rfl⟩
theorem skipGaps_ag:∀ (c:List Nat),s0.length < (skipGaps (c ++ s0)).length→Cm c s0→Cm c s1→∃ ρ,ρ ≠ []∧ρ <:+ c∧skipGaps (c ++ s0) = ρ ++ s0∧skipGaps (c ++ s1) = ρ ++ s1
  | [],h,_,_=>by
    have:=(skipGaps_suf s0).length_le
    simp at h;lia
  | x :: c,h,h0,h1=>by
    have es:∀ s,skipGaps ((x :: c) ++ s) = skipGaps (x :: (c ++ s)):=fun s=>rfl
    rw [es] at h
    rw [es,es]
    rw [skipGaps_eq] at h ⊢
    by_cases hg:isGap x = true
    · rw [if_pos hg] at h ⊢
      obtain ⟨ρ,a,b,d,e⟩:=skipGaps_ag c h (h0.suf (List.suffix_cons ..)) (h1.suf (List.suffix_cons ..))
      exact ⟨ρ,a,b.trans (List.suffix_cons ..),d,by rw [skipGaps_eq,if_pos hg];exact e⟩
    · cases c with
      | nil =>
        have n0:NoGap (x :: s0):=⟨by simpa using hg,fun s' q=>by obtain ⟨rfl,rfl⟩:=q;exact h0.one.1 rfl rfl⟩
        have n1:=noGap_ag (c:=[x]) (by simp) h0 h1 n0
        refine ⟨[x],by simp,List.suffix_refl _,?_,?_⟩
        · rw [← skipGaps_eq];exact skipGaps_of n0
        · exact skipGaps_of n1
      | cons d c =>
        rw [if_neg hg] at h ⊢
        rw [skipGaps_eq,if_neg hg]
        simp only [List.cons_append] at h ⊢
        by_cases hq:x = 92∧d = 10
        · rw [if_pos hq] at h ⊢
          rw [if_pos hq]
          have hs:c <:+ x :: d :: c:=(List.suffix_cons ..).trans (List.suffix_cons ..)
          obtain ⟨ρ,a,b,e,f⟩:=skipGaps_ag c h (h0.suf hs) (h1.suf hs)
          exact ⟨ρ,a,b.trans hs,e,f⟩
        · rw [if_neg hq,if_neg hq]
          exact ⟨x :: d :: c,by simp,List.suffix_refl _,rfl,rfl⟩
theorem skipCmd_ag:∀ (b:Bool) (c:List Nat),s0.length < (skipCmd b (c ++ s0)).length→Cm c s0→Cm c s1→∃ ρ,ρ ≠ []∧ρ <:+ c∧skipCmd b (c ++ s0) = ρ ++ s0∧skipCmd b (c ++ s1) = ρ ++ s1
  | b,[],h,_,_=>by
    have:=(skipCmd_suf b s0).length_le
    simp at h;lia
  | false,x :: c,h,h0,h1=>by
    have es:∀ s,skipCmd false ((x :: c) ++ s) = skipCmd false (x :: (c ++ s)):=fun s=>rfl
    rw [es] at h
    rw [es,es]
    rw [skipCmd_f] at h ⊢
    rw [skipCmd_f]
    by_cases hg:(isGap x || x == 10 || x == 59) = true
    · rw [if_pos hg] at h ⊢
      rw [if_pos hg]
      obtain ⟨ρ,a,b,d,e⟩:=skipCmd_ag false c h (h0.suf (List.suffix_cons ..)) (h1.suf (List.suffix_cons ..))
      exact ⟨ρ,a,b.trans (List.suffix_cons ..),d,e⟩
    · rw [if_neg hg] at h ⊢
      rw [if_neg hg]
      by_cases h35:x = 35
      · rw [if_pos h35] at h ⊢
        rw [if_pos h35]
        obtain ⟨ρ,a,b,d,e⟩:=skipCmd_ag true c h (h0.suf (List.suffix_cons ..)) (h1.suf (List.suffix_cons ..))
        exact ⟨ρ,a,b.trans (List.suffix_cons ..),d,e⟩
      · rw [if_neg h35] at h ⊢
        rw [if_neg h35]
        cases c with
        | nil =>
          have key:∀ s,Gd x s→(match ([]:List Nat) ++ s with | []=>[x] | d :: s'=>if x = 92∧d = 10 then skipCmd false s' else x :: d :: s') = [x] ++ s:=fun s hs=>by
            cases s with
            | nil=>rfl
            | cons d s' =>
              simp only [List.nil_append]
              rw [if_neg (fun q=>hs.1 q.1 (by rw [q.2];rfl))];rfl
          exact ⟨[x],by simp,List.suffix_refl _,key s0 h0.one,key s1 h1.one⟩
        | cons d c =>
          simp only [List.cons_append] at h ⊢
          by_cases hq:x = 92∧d = 10
          · rw [if_pos hq] at h ⊢
            rw [if_pos hq]
            have hs:c <:+ x :: d :: c:=(List.suffix_cons ..).trans (List.suffix_cons ..)
            obtain ⟨ρ,a,b,e,f⟩:=skipCmd_ag false c h (h0.suf hs) (h1.suf hs)
            exact ⟨ρ,a,b.trans hs,e,f⟩
          · rw [if_neg hq,if_neg hq]
            exact ⟨x :: d :: c,by simp,List.suffix_refl _,rfl,rfl⟩
  | true,x :: c,h,h0,h1=>by
    have es:∀ s,skipCmd true ((x :: c) ++ s) = skipCmd true (x :: (c ++ s)):=fun s=>rfl
    rw [es] at h
    rw [es,es]
    rw [skipCmd_t] at h ⊢
    rw [skipCmd_t]
    by_cases h92:x = 92
    · rw [if_pos h92] at h ⊢
      rw [if_pos h92]
      cases c with
      | nil =>
        exfalso
        cases s0 with
        | nil=>simp at h
        | cons d s0 =>
          simp only [List.nil_append] at h
          have:=(skipCmd_suf true s0).length_le
          simp at h;lia
      | cons d c =>
        simp only [List.cons_append] at h ⊢
        have hs:c <:+ x :: d :: c:=(List.suffix_cons ..).trans (List.suffix_cons ..)
        obtain ⟨ρ,a,b,e,f⟩:=skipCmd_ag true c h (h0.suf hs) (h1.suf hs)
        exact ⟨ρ,a,b.trans hs,e,f⟩
    · rw [if_neg h92] at h ⊢
      rw [if_neg h92]
      by_cases h10:x = 10
      · rw [if_pos h10] at h ⊢
        rw [if_pos h10]
        obtain ⟨ρ,a,b,d,e⟩:=skipCmd_ag false c h (h0.suf (List.suffix_cons ..)) (h1.suf (List.suffix_cons ..))
        exact ⟨ρ,a,b.trans (List.suffix_cons ..),d,e⟩
      · rw [if_neg h10] at h ⊢
        rw [if_neg h10]
        obtain ⟨ρ,a,b,d,e⟩:=skipCmd_ag true c h (h0.suf (List.suffix_cons ..)) (h1.suf (List.suffix_cons ..))
        exact ⟨ρ,a,b.trans (List.suffix_cons ..),d,e⟩
theorem nameR_e (b:Bool) (c:Nat) (s:List Nat):nameR b (c :: s) = if c = 58 then (if b then nameR true s else match s with
    | []=>[c]
    | d :: s'=>if d = 58 then nameR true s' else c :: d :: s') else if c = 95 ∨ 0 ≤ digitv c then nameR false s else c :: s:=by rw [nameR.eq_def] <;> rfl
theorem nameR_ag:∀ (b:Bool) (c:List Nat),s0.length < (nameR b (c ++ s0)).length→Cm c s0→Cm c s1→∃ ρ,ρ ≠ []∧ρ <:+ c∧nameR b (c ++ s0) = ρ ++ s0∧nameR b (c ++ s1) = ρ ++ s1
  | b,[],h,_,_=>by
    have:=(nameR_suf b s0).length_le
    simp at h;lia
  | b,x :: c,h,h0,h1=>by
    have es:∀ s,nameR b ((x :: c) ++ s) = nameR b (x :: (c ++ s)):=fun s=>rfl
    rw [es] at h
    rw [es,es]
    rw [nameR_e] at h ⊢
    rw [nameR_e]
    by_cases h58:x = 58
    · rw [if_pos h58] at h ⊢
      rw [if_pos h58]
      cases b with
      | true =>
        simp only [if_true] at h ⊢
        obtain ⟨ρ,a,b,d,e⟩:=nameR_ag true c h (h0.suf (List.suffix_cons ..)) (h1.suf (List.suffix_cons ..))
        exact ⟨ρ,a,b.trans (List.suffix_cons ..),d,e⟩
      | false =>
        simp only [Bool.false_eq_true,if_false] at h ⊢
        cases c with
        | nil =>
          have key:∀ s,Gd x s→(match ([]:List Nat) ++ s with | []=>[x] | d :: s'=>if d = 58 then nameR true s' else x :: d :: s') = [x] ++ s:=fun s hs=>by
            cases s with
            | nil=>rfl
            | cons d s' =>
              simp only [List.nil_append]
              rw [if_neg (fun q=>hs.2 h58 (by rw [q];rfl))];rfl
          exact ⟨[x],by simp,List.suffix_refl _,key s0 h0.one,key s1 h1.one⟩
        | cons d c =>
          simp only [List.cons_append] at h ⊢
          by_cases hq:d = 58
          · rw [if_pos hq] at h ⊢
            rw [if_pos hq]
            have hs:c <:+ x :: d :: c:=(List.suffix_cons ..).trans (List.suffix_cons ..)
            obtain ⟨ρ,a,b,e,f⟩:=nameR_ag true c h (h0.suf hs) (h1.suf hs)
            exact ⟨ρ,a,b.trans hs,e,f⟩
          · rw [if_neg hq,if_neg hq]
            exact ⟨x :: d :: c,by simp,List.suffix_refl _,rfl,rfl⟩
    · rw [if_neg h58] at h ⊢
      rw [if_neg h58]
      by_cases hq:x = 95 ∨ 0 ≤ digitv x
      · rw [if_pos hq] at h ⊢
        rw [if_pos hq]
        obtain ⟨ρ,a,b,d,e⟩:=nameR_ag false c h (h0.suf (List.suffix_cons ..)) (h1.suf (List.suffix_cons ..))
        exact ⟨ρ,a,b.trans (List.suffix_cons ..),d,e⟩
      · rw [if_neg hq,if_neg hq]
        exact ⟨x :: c,by simp,List.suffix_refl _,rfl,rfl⟩
theorem blanks_e (c:Nat) (s:List Nat):blanks (c :: s) = if c = 32 ∨ c = 9 then blanks s else c :: s:=by rw [blanks.eq_def]
theorem blanks_ag:∀ (c:List Nat),s0.length < (blanks (c ++ s0)).length→∃ ρ,ρ ≠ []∧ρ <:+ c∧blanks (c ++ s0) = ρ ++ s0∧blanks (c ++ s1) = ρ ++ s1
  | [],h=>by
    have:=(blanks_suf s0).length_le
    simp at h;lia
  | x :: c,h=>by
    simp only [List.cons_append] at h ⊢
    rw [blanks_e] at h ⊢
    rw [blanks_e]
    by_cases hq:x = 32 ∨ x = 9
    · rw [if_pos hq] at h ⊢
      rw [if_pos hq]
      obtain ⟨ρ,a,b,d,e⟩:=blanks_ag c h
      exact ⟨ρ,a,b.trans (List.suffix_cons ..),d,e⟩
    · rw [if_neg hq,if_neg hq]
      exact ⟨x :: c,by simp,List.suffix_refl _,rfl,rfl⟩
theorem hexv_ag:∀ (k:Nat) (v:Int) (c:List Nat),s0.length < (hexv k v (c ++ s0)).2.length→∃ u ρ,ρ ≠ []∧ρ <:+ c∧hexv k v (c ++ s0) = (u,ρ ++ s0)∧hexv k v (c ++ s1) = (u,ρ ++ s1)
  | k,v,[],h=>by
    have:=(hexv_suf k v s0).length_le
    simp at h;lia
  | 0,v,x :: c,h=>⟨v,x :: c,by simp,List.suffix_refl _,rfl,rfl⟩
  | k + 1,v,x :: c,h=>by
    simp only [List.cons_append] at h ⊢
    unfold hexv at h ⊢
    by_cases h1:v ≤ 69631
    · rw [if_pos h1] at h ⊢
      rw [if_pos h1]
      by_cases h2:digitv x < 0 ∨ 15 < digitv x
      · rw [if_pos h2,if_pos h2]
        exact ⟨v,x :: c,by simp,List.suffix_refl _,rfl,rfl⟩
      · rw [if_neg h2] at h ⊢
        rw [if_neg h2]
        obtain ⟨u,ρ,a,b,d,e⟩:=hexv_ag k _ c h
        exact ⟨u,ρ,a,b.trans (List.suffix_cons ..),d,e⟩
    · rw [if_neg h1,if_neg h1]
      exact ⟨v,x :: c,by simp,List.suffix_refl _,rfl,rfl⟩
theorem octv_ag:∀ (k:Nat) (v:Int) (c:List Nat),s0.length < (octv k v (c ++ s0)).2.length→∃ u ρ,ρ ≠ []∧ρ <:+ c∧octv k v (c ++ s0) = (u,ρ ++ s0)∧octv k v (c ++ s1) = (u,ρ ++ s1)
  | k,v,[],h=>by
    have:=(octv_suf k v s0).length_le
    simp at h;lia
  | 0,v,x :: c,h=>⟨v,x :: c,by simp,List.suffix_refl _,rfl,rfl⟩
  | k + 1,v,x :: c,h=>by
    simp only [List.cons_append] at h ⊢
    unfold octv at h ⊢
    by_cases h1:v < 32
    · rw [if_pos h1] at h ⊢
      rw [if_pos h1]
      by_cases h2:digitv x < 0 ∨ 7 < digitv x
      · rw [if_pos h2,if_pos h2]
        exact ⟨v,x :: c,by simp,List.suffix_refl _,rfl,rfl⟩
      · rw [if_neg h2] at h ⊢
        rw [if_neg h2]
        obtain ⟨u,ρ,a,b,d,e⟩:=octv_ag k _ c h
        exact ⟨u,ρ,a,b.trans (List.suffix_cons ..),d,e⟩
    · rw [if_neg h1,if_neg h1]
      exact ⟨v,x :: c,by simp,List.suffix_refl _,rfl,rfl⟩
theorem bs_some {c k:Nat} (h:known c = some k) (s:List Nat):bs (c :: s) = ([k],s):=by unfold bs;dsimp only;rw [h]
theorem bs_none {c:Nat} (h:known c = none) (s:List Nat):bs (c :: s) = if c = 10 then ([32],blanks s) else if c = 120 ∨ c = 117 ∨ c = 85 then hexS c s else if 48 ≤ c∧c ≤ 55 then ([(octv 3 0 (c :: s)).1.toNat],(octv 3 0 (c :: s)).2) else ([c],s):=by unfold bs;dsimp only;rw [h]
theorem bs_ag (c:List Nat) (h:s0.length < (bs (c ++ s0)).2.length):∃ u ρ,ρ ≠ []∧ρ <:+ c∧bs (c ++ s0) = (u,ρ ++ s0)∧bs (c ++ s1) = (u,ρ ++ s1):=by
  cases c with
  | nil =>
    have:=(bs_suf s0).length_le
    simp at h;lia
  | cons x c =>
    have hx:c <:+ x :: c:=List.suffix_cons ..
    simp only [List.cons_append] at h ⊢
    cases hk:known x with
    | some k =>
      rw [bs_some hk] at h
      rw [bs_some hk,bs_some hk]
      exact ⟨[k],c,ne_of_len h,hx,rfl,rfl⟩
    | none =>
      rw [bs_none hk] at h
      rw [bs_none hk,bs_none hk]
      by_cases h10:x = 10
      · rw [if_pos h10] at h ⊢
        rw [if_pos h10]
        obtain ⟨ρ,a,b,d,e⟩:=blanks_ag (s0:=s0) (s1:=s1) c h
        exact ⟨[32],ρ,a,b.trans hx,by rw [d],by rw [e]⟩
      · rw [if_neg h10] at h ⊢
        rw [if_neg h10]
        by_cases hh:x = 120 ∨ x = 117 ∨ x = 85
        · rw [if_pos hh] at h ⊢
          rw [if_pos hh]
          have hl:s0.length < (hexv (hexMost x) 0 (c ++ s0)).2.length:=by
            unfold hexS at h
            split at h
            · rename_i hq;rw [hq];exact h
            · exact h
          obtain ⟨u,ρ,a,b,d,e⟩:=hexv_ag (s0:=s0) (s1:=s1) (hexMost x) 0 c hl
          unfold hexS
          rw [d,e]
          have key:∀ s:List Nat,((ρ ++ s).length = (c ++ s).length) ↔ ρ.length = c.length:=fun s=>by simp
          by_cases hz:ρ.length = c.length
          · have hρ:ρ = c:=b.eq_of_length hz
            subst hρ
            exact ⟨[x],ρ,a,hx,by simp,by simp⟩
          · refine ⟨[u.toNat],ρ,a,b.trans hx,?_,?_⟩
            · rw [if_neg (fun q=>hz ((key s0).mp q))]
            · rw [if_neg (fun q=>hz ((key s1).mp q))]
        · rw [if_neg hh] at h ⊢
          rw [if_neg hh]
          by_cases ho:48 ≤ x∧x ≤ 55
          · rw [if_pos ho] at h ⊢
            rw [if_pos ho]
            obtain ⟨u,ρ,a,b,d,e⟩:=octv_ag (s0:=s0) (s1:=s1) 3 0 (x :: c) h
            simp only [List.cons_append] at d e
            rw [d,e]
            exact ⟨_,ρ,a,b,rfl,rfl⟩
          · rw [if_neg ho] at h ⊢
            rw [if_neg ho]
            exact ⟨[x],c,ne_of_len h,hx,rfl,rfl⟩
theorem brc_ag:∀ (d:Nat) (b:Bool) (acc:List Nat) (c:List Nat) (v r:List Nat),brc d b acc (c ++ s0) = some (v,r)→s0.length ≤ r.length→∃ ρ,ρ <:+ c∧r = ρ ++ s0∧brc d b acc (c ++ s1) = some (v,ρ ++ s1)
  | d,b,acc,[],v,r,h,hl=>by
    have:=(brc_suf _ _ _ _ _ _ h).2
    simp at this;lia
  | d,b,acc,x :: c,v,r,h,hl=>by
    simp only [List.cons_append] at h ⊢
    rw [brc_eq] at h ⊢
    have hx:c <:+ x :: c:=List.suffix_cons ..
    by_cases hb:b = true∧(x = 32 ∨ x = 9)
    · rw [if_pos hb] at h ⊢
      obtain ⟨ρ,a,e,f⟩:=brc_ag _ _ _ c v r h hl
      exact ⟨ρ,a.trans hx,e,f⟩
    · rw [if_neg hb] at h ⊢
      by_cases h1:x = 123
      · rw [if_pos h1] at h ⊢
        obtain ⟨ρ,a,e,f⟩:=brc_ag _ _ _ c v r h hl
        exact ⟨ρ,a.trans hx,e,f⟩
      · rw [if_neg h1] at h ⊢
        by_cases h2:x = 125
        · rw [if_pos h2] at h ⊢
          cases d with
          | zero =>
            simp only [Option.some.injEq,Prod.mk.injEq] at h ⊢
            obtain ⟨rfl,rfl⟩:=h
            exact ⟨c,hx,rfl,rfl,rfl⟩
          | succ d =>
            obtain ⟨ρ,a,e,f⟩:=brc_ag _ _ _ c v r h hl
            exact ⟨ρ,a.trans hx,e,f⟩
        · rw [if_neg h2] at h ⊢
          by_cases h3:x = 92
          · rw [if_pos h3] at h ⊢
            cases c with
            | nil =>
              exfalso
              cases s0 with
              | nil=>cases h
              | cons e s0 =>
                simp only [List.nil_append] at h
                split at h
                · have:=(brc_suf _ _ _ _ _ _ h).2;simp at hl;lia
                · have:=(brc_suf _ _ _ _ _ _ h).2;simp at hl;lia
            | cons e c =>
              have hx2:c <:+ x :: e :: c:=(List.suffix_cons ..).trans hx
              simp only [List.cons_append] at h ⊢
              by_cases he:e = 10
              · rw [if_pos he] at h ⊢
                obtain ⟨ρ,a,e,f⟩:=brc_ag _ _ _ c v r h hl
                exact ⟨ρ,a.trans hx2,e,f⟩
              · rw [if_neg he] at h ⊢
                obtain ⟨ρ,a,e,f⟩:=brc_ag _ _ _ c v r h hl
                exact ⟨ρ,a.trans hx2,e,f⟩
          · rw [if_neg h3] at h ⊢
            obtain ⟨ρ,a,e,f⟩:=brc_ag _ _ _ c v r h hl
            exact ⟨ρ,a.trans hx,e,f⟩
end
theorem isExp_iff (s:List Nat):isExp s = true ↔ ∃ c u,s = 123 :: 42 :: 125 :: c :: u∧c ≠ 10∧c ≠ 59∧NoGap (c :: u):=by
  constructor
  · intro h
    obtain ⟨a,b,d,c,u,rfl⟩:=four_of (isExp_len h)
    unfold isExp at h
    simp only [List.take_succ_cons,List.take_zero,List.drop_succ_cons,List.drop_zero,Bool.and_eq_true,Bool.not_eq_true',beq_iff_eq,beq_eq_false_iff_ne] at h
    obtain ⟨h1,⟨h2,h3⟩,h4⟩:=h
    cases h1
    refine ⟨c,u,rfl,h2,h3,?_⟩
    have:=(skipGaps_suf (c :: u)).eq_of_length h4
    rw [← this];exact skipGaps_noGap _
  · rintro ⟨c,u,rfl,h2,h3,h4⟩
    unfold isExp
    simp only [List.take_succ_cons,List.take_zero,List.drop_succ_cons,List.drop_zero,Bool.and_eq_true,Bool.not_eq_true',beq_iff_eq,beq_eq_false_iff_ne]
    exact ⟨trivial,⟨h2,h3⟩,by rw [skipGaps_of h4]⟩
theorem isExp_ag {c s0 s1:List Nat} (hl:3 < c.length) (h0:Cm c s0) (h1:Cm c s1):isExp (c ++ s0) = isExp (c ++ s1):=by
  obtain ⟨a,b,d,x,u,rfl⟩:=four_of hl
  · have hs:x :: u <:+ a :: b :: d :: x :: u:=(List.suffix_cons ..).trans ((List.suffix_cons ..).trans (List.suffix_cons ..))
    have key:∀ s s',Cm (x :: u) s→Cm (x :: u) s'→isExp (a :: b :: d :: x :: u ++ s) = true→isExp (a :: b :: d :: x :: u ++ s') = true:=fun s s' g g' h=>by
      rw [isExp_iff] at h ⊢
      obtain ⟨y,w,e,p,q,r⟩:=h
      simp only [List.cons_append,List.cons.injEq] at e
      obtain ⟨rfl,rfl,rfl,rfl,rfl⟩:=e
      exact ⟨x,u ++ s',rfl,p,q,noGap_ag (c:=x :: u) (by simp) g g' r⟩
    rw [Bool.eq_iff_iff]
    exact ⟨key _ _ (h0.suf hs) (h1.suf hs),key _ _ (h1.suf hs) (h0.suf hs)⟩
theorem dropW_ag (p:Nat→Bool):∀ (c:List Nat) {s0:List Nat},s0.length < ((c ++ s0).dropWhile p).length→c.dropWhile p ≠ []∧∀ s,(c ++ s).dropWhile p = c.dropWhile p ++ s∧(c ++ s).takeWhile p = c.takeWhile p
  | [],s0,h=>by
    have:=(List.dropWhile_suffix p (l:=s0)).length_le
    simp at h;lia
  | x :: c,s0,h=>by
    simp only [List.cons_append] at h ⊢
    by_cases hx:p x = true
    · rw [List.dropWhile_cons_of_pos hx] at h ⊢
      obtain ⟨a,b⟩:=dropW_ag p c h
      exact ⟨a,fun s=>by rw [List.dropWhile_cons_of_pos hx,List.takeWhile_cons_of_pos hx,List.takeWhile_cons_of_pos hx,(b s).1,(b s).2];exact ⟨rfl,rfl⟩⟩
    · rw [List.dropWhile_cons_of_neg hx]
      exact ⟨by simp,fun s=>by rw [List.dropWhile_cons_of_neg hx,List.takeWhile_cons_of_neg hx,List.takeWhile_cons_of_neg hx];exact ⟨rfl,rfl⟩⟩
end Mine
end
section
open PySem
namespace Mine
noncomputable def Call.put:Call→List Nat→Call
  | .brl _,t=>.brl t
  | .ws b _ acc,t=>.ws b t acc
  | .word b _,t=>.word b t
  | .pts K _ run acc,t=>.pts K t run acc
  | .var _,t=>.var t
noncomputable def isX (t:Str):Prop:=t = xQuote ∨ t = xBrace
noncomputable def Mrg (s0:List Nat):Call→Rs→Prop
  | .brl _,.ok _ _ r=>s0.length ≤ r.length
  | _,.ok _ _ r=>s0.length < r.length
  | _,.err t r=>isX t∧s0.length < r.length
inductive Rl (c s0 s1:List Nat):Rs→Rs→Prop
  | ok {v μ ρ}:ρ <:+ μ→μ <:+ c→Rl c s0 s1 (.ok v (μ ++ s0) (ρ ++ s0)) (.ok v (μ ++ s1) (ρ ++ s1))
  | err {t ρ}:ρ <:+ c→Rl c s0 s1 (.err t (ρ ++ s0)) (.err t (ρ ++ s1))
theorem Rl.mono {c d s0 s1:List Nat} {R R':Rs} (h:Rl c s0 s1 R R') (hd:c <:+ d):Rl d s0 s1 R R':=by
  cases h with
  | ok a b=>exact .ok a (b.trans hd)
  | err a=>exact .err (a.trans hd)
section
variable {n:Nat} {k:Call} {c s0 s1:List Nat}
theorem ag_ok {v:List PyData} {r:List Nat} (h:∃ R',P n k R'∧Rl c s0 s1 (.ok v r r) R'):∃ ρ,r = ρ ++ s0∧ρ <:+ c∧P n k (.ok v (ρ ++ s1) (ρ ++ s1)):=by
  obtain ⟨R',h1,h2⟩:=h
  generalize hR:Rs.ok v r r = R at h2
  cases h2 with
  | ok a b =>
    rename_i v' μ ρ
    simp only [Rs.ok.injEq] at hR
    obtain ⟨rfl,e1,e2⟩:=hR
    have:μ = ρ:=List.append_cancel_right (e1.symm.trans e2)
    subst this
    exact ⟨μ,e1,b,h1⟩
  | err a=>cases hR
theorem ag_okm {v:List PyData} {m r:List Nat} (h:∃ R',P n k R'∧Rl c s0 s1 (.ok v m r) R'):∃ μ ρ,m = μ ++ s0∧r = ρ ++ s0∧ρ <:+ μ∧μ <:+ c∧P n k (.ok v (μ ++ s1) (ρ ++ s1)):=by
  obtain ⟨R',h1,h2⟩:=h
  generalize hR:Rs.ok v m r = R at h2
  cases h2 with
  | ok a b =>
    simp only [Rs.ok.injEq] at hR
    obtain ⟨rfl,e1,e2⟩:=hR
    exact ⟨_,_,e1,e2,a,b,h1⟩
  | err a=>cases hR
theorem ag_err {t:Str} {r:List Nat} (h:∃ R',P n k R'∧Rl c s0 s1 (.err t r) R'):∃ ρ,r = ρ ++ s0∧ρ <:+ c∧P n k (.err t (ρ ++ s1)):=by
  obtain ⟨R',h1,h2⟩:=h
  generalize hR:Rs.err t r = R at h2
  cases h2 with
  | ok a b=>cases hR
  | err a =>
    simp only [Rs.err.injEq] at hR
    obtain ⟨rfl,e1⟩:=hR
    exact ⟨_,e1,a,h1⟩
end
noncomputable def Call.isB:Call→Bool
  | .brl _=>true
  | _=>false
theorem Mrg.lt {s0:List Nat} {k:Call} {R:Rs} (h:Mrg s0 k R) (hk:k.isB = false):s0.length < R.rest.length:=by
  cases k <;> cases R <;> first | exact h | exact h.2 | exact absurd hk.symm Bool.false_ne_true
theorem not_isX {t:Str} (h1:t ≠ xQuote) (h2:t ≠ xBrace):¬ isX t:=fun h=>h.elim h1 h2
theorem cons_of {x:Nat} {s c s0:List Nat} (h:x :: s = c ++ s0) (hl:s0.length ≤ s.length):∃ c',c = x :: c'∧s = c' ++ s0:=by
  cases c with
  | nil=>simp at h;subst h;simp at hl;lia
  | cons y c=>simp at h;obtain ⟨rfl,rfl⟩:=h;exact ⟨c,rfl,rfl⟩
theorem head_app {c s0 s1:List Nat} {x:Nat} (hc:c ≠ []) (h:(c ++ s0).head? ≠ some x):(c ++ s1).head? ≠ some x:=by
  cases c with
  | nil=>exact absurd rfl hc
  | cons y c=>exact h
theorem pw_rest {n:Nat} {b:Bool} {s:List Nat} {R:Rs} (h:PW n b s R):R.rest.length ≤ (body s).length:=by
  have q:∀ {s:List Nat} {c:Nat} {v r:List Nat},body s = c :: v→r.length ≤ v.length→r.length ≤ (body s).length:=fun e l=>by rw [e];exact Nat.le_succ_of_le l
  induction h with
  | w_brace a e=>exact q a (Nat.le_of_lt (brc_suf _ _ _ _ _ _ e).2)
  | w_quote a e=>exact q a (Nat.le_of_succ_le (show (34 :: _).length ≤ _ from (e.suf.1.trans e.suf.2).length_le))
  | w_quoteE a e=>exact q a (e.suf.1.trans e.suf.2).length_le
  | w_bare _ _ e=>exact (e.suf.1.trans e.suf.2).length_le
  | w_bareE _ _ e=>exact (e.suf.1.trans e.suf.2).length_le
  | _=>exact Nat.zero_le _
theorem pw_125 {n:Nat} {b:Bool} {s:List Nat} {R:Rs} (h:PW n b s R):∀ v,body s = 123 :: v→R.rest = [] ∨ 125 :: R.rest <:+ v:=by
  have no:∀ {s w v:List Nat} {M:Prop},body s = 34 :: w→body s = 123 :: v→M:=fun a e=>absurd (List.cons.inj (a.symm.trans e)).1 (by decide)
  induction h with
  | w_brace a e=>exact fun v hb=>.inr ((List.cons.inj (a.symm.trans hb)).2 ▸ brc_125 _ _ _ _ _ _ e)
  | w_quote a _=>exact fun v hb=>no a hb
  | w_quoteE a _=>exact fun v hb=>no a hb
  | w_bare a _ _=>exact fun v hb=>absurd (by rw [hb];rfl) a
  | w_bareE a _ _=>exact fun v hb=>absurd (by rw [hb];rfl) a
  | _=>exact fun _ _=>.inl rfl
theorem isExp_sh {c s0 s1:List Nat} (hc:¬ 3 < c.length) (hn:c ≠ []) {R:List Nat} (hl:s0.length < R.length) (h:∀ c',c = 123 :: c'→125 :: R <:+ c' ++ s0):isExp (c ++ s1) = false:=by
  refine Bool.eq_false_iff.mpr fun hx=>?_
  obtain ⟨y,w,e,_⟩:=(isExp_iff _).mp hx
  cases c with
  | nil=>exact hn rfl
  | cons a c' =>
    obtain ⟨rfl,e2⟩:=List.cons.inj e
    have h5:=h c' rfl
    have h6:=h5.length_le
    rw [List.length_append] at h6
    simp only [List.length_cons] at h6 hc
    have h7:125 :: R = c' ++ s0:=h5.eq_of_length (by rw [List.length_append,List.length_cons];lia)
    cases c' with
    | nil=>simp only [List.length_nil] at h6;lia
    | cons z c''=>exact absurd ((List.cons.inj h7).1.trans (List.cons.inj e2).1) (by decide)
theorem word_body {n:Nat} {b:Bool} {c s0 s1:List Nat} {R:Rs} (h:P n (.word b (c ++ s0)) R) (hl:s0.length < R.rest.length) (h0:Cm c s0) (h1:Cm c s1) :
    isExp (c ++ s0) = isExp (c ++ s1)∧∃ u,u ≠ []∧u <:+ c∧body (c ++ s0) = u ++ s0∧body (c ++ s1) = u ++ s1:=by
  have hrb:=pw_rest h.iw
  by_cases hc:3 < c.length
  · have he:=isExp_ag hc h0 h1
    by_cases hx:isExp (c ++ s0) = true
    · have d:∀ s,(c ++ s).drop 3 = c.drop 3 ++ s:=fun s=>List.drop_append_of_le_length (Nat.le_of_lt hc)
      exact ⟨he,c.drop 3,fun q=>absurd (List.drop_eq_nil_iff.mp q) (Nat.not_le_of_lt hc),List.drop_suffix _ _,(if_pos hx).trans (d s0),(if_pos (he ▸ hx)).trans (d s1)⟩
    · exact ⟨he,c,fun q=>by rw [q] at hc;exact absurd hc (by decide),List.suffix_refl _,if_neg hx,if_neg (he ▸ hx)⟩
  · have e0:isExp (c ++ s0) = false:=Bool.eq_false_iff.mpr fun hx=>by
      have hb:(body (c ++ s0)).length = (c ++ s0).length - 3:=by unfold body;rw [if_pos hx,List.length_drop]
      rw [List.length_append] at hb
      lia
    have b0:body (c ++ s0) = c ++ s0:=by unfold body;rw [e0];rfl
    have hcne:c ≠ []:=fun q=>by subst q;rw [b0] at hrb;exact absurd (Nat.lt_of_lt_of_le hl hrb) (Nat.lt_irrefl _)
    have e1:isExp (c ++ s1) = false:=isExp_sh hc hcne hl fun c' q=>by
      refine (pw_125 h.iw (c' ++ s0) (b0.trans (by rw [q];rfl))).elim (fun z=>?_) id
      rw [z] at hl;exact absurd hl (Nat.not_lt_zero _)
    exact ⟨e0.trans e1.symm,c,hcne,List.suffix_refl _,b0,by unfold body;rw [e1];rfl⟩
noncomputable def Brl9 (s:List Nat):Rs→Prop
  | .ok _ _ r=>93 :: r <:+ s
  | .err _ _=>True
noncomputable def BrlM:Call→Rs→Prop
  | .brl s,R=>Brl9 s R
  | _,_=>True
theorem brl_9 {n:Nat} {k:Call} {R:Rs} (h:P n k R):BrlM k R:=by
  induction h with
  | b_cl=>exact List.suffix_refl _
  | @b_cmd n c s v m r R h93 h1 h2 _ ih =>
    cases R with
    | err _ _=>trivial
    | ok _ _ _=>exact List.IsSuffix.trans ih ((skipCmd_suf false _).trans (h1.suf.1.trans h1.suf.2))
  | _=>trivial
theorem brl_93 {n:Nat} {k:Call} {R:Rs} (h:P n k R):∀ {s v m r},k = .brl s→R = .ok v m r→93 :: r <:+ s:=by
  rintro s v m r rfl rfl
  exact brl_9 h
theorem brl_lt {n:Nat} {k:Call} {R:Rs} (h:P n k R):∀ {s v m r},k = .brl s→R = .ok v m r→r.length < s.length:=by
  rintro s v m r rfl rfl
  exact (show 93 :: r <:+ s from brl_9 h).length_le
end Mine
end
section
set_option tactic.hygienic false
open PySem
namespace Mine
theorem xq_ne:mBr ≠ xQuote∧mBr ≠ xBrace∧mBrace ≠ xQuote∧mBrace ≠ xBrace∧mVar ≠ xQuote∧mVar ≠ xBrace∧mParen ≠ xQuote∧mParen ≠ xBrace∧mQuote ≠ xQuote∧mQuote ≠ xBrace:=by decide
theorem P.restLe {n:Nat} {k:Call} {R:Rs} (h:P n k R):R.rest.length ≤ k.tx.length:=(h.suf.1.trans h.suf.2).length_le
theorem Mrg.to {s0:List Nat} {k k':Call} {R:Rs} (h:Mrg s0 k R) (hk:k.isB = false) (hk':k'.isB = false):Mrg s0 k' R:=by
  cases R with
  | ok _ _ _=>cases k <;> cases k' <;> first | exact h | exact absurd hk.symm Bool.false_ne_true | exact absurd hk'.symm Bool.false_ne_true
  | err _ _=>cases k <;> cases k' <;> exact h
noncomputable def AgM (n:Nat) (k:Call) (R:Rs):Prop:=∀ {c s0 s1:List Nat},k.tx = c ++ s0→Cm c s0→Cm c s1→Mrg s0 k R→∃ R',P n (k.put (c ++ s1)) R'∧Rl c s0 s1 R R'
theorem Rl.err' {c s0 s1 ρ r:List Nat} {t:Str} (e:r = ρ ++ s0) (h:ρ <:+ c):Rl c s0 s1 (.err t r) (.err t (ρ ++ s1)):=e ▸ .err h
theorem Rl.ok' {c s0 s1 μ ρ m r:List Nat} {v:List PyData} (em:m = μ ++ s0) (er:r = ρ ++ s0) (h:ρ <:+ μ) (k:μ <:+ c):Rl c s0 s1 (.ok v m r) (.ok v (μ ++ s1) (ρ ++ s1)):=em ▸ er ▸ .ok h k
theorem Rl.ok1 {c s0 s1 ρ r:List Nat} {v:List PyData} (er:r = ρ ++ s0) (k:ρ <:+ c):Rl c s0 s1 (.ok v r r) (.ok v (ρ ++ s1) (ρ ++ s1)):=.ok' er er (List.suffix_refl _) k
theorem btw_eq {a b a' b' s0 s1:List Nat} (eb:b = b' ++ s0) (ea:a = a' ++ s0) (h:a' <:+ b'):btw (b' ++ s1) (a' ++ s1) = btw b a:=by subst eb;subst ea;exact (btw_right h).trans (btw_right h).symm
theorem lt_c {a b:Nat} {s s0:List Nat} (h:s0.length < b) (k:b ≤ s.length):s0.length ≤ (a :: s).length:=Nat.le_of_lt (Nat.lt_of_lt_of_le h (Nat.le_succ_of_le k))
section
variable {n m x:Nat} {k k1 k2:Call} {v:List PyData} {s r c s0 s1:List Nat} {R:Rs} {t:Str}
theorem ag_two (i1:AgM n k1 (.ok v r r)) (i2:AgM m k2 R) (h1:k1.tx = s) (h2:k2.tx = r) (b1:k1.isB = false) (b:k.isB = false) (b2:k2.isB = false) (l1:r.length ≤ s.length) (l2:R.rest.length ≤ r.length)
    (e:x :: s = c ++ s0) (g0:Cm c s0) (g1:Cm c s1) (hm:Mrg s0 k R):∃ c' ρ R',c = x :: c'∧P n (k1.put (c' ++ s1)) (.ok v (ρ ++ s1) (ρ ++ s1))∧P m (k2.put (ρ ++ s1)) R'∧Rl c s0 s1 R R':=by
  have hl:=Nat.lt_of_lt_of_le (hm.lt b) l2
  obtain ⟨c',rfl,es⟩:=cons_of e (Nat.le_of_lt (Nat.lt_of_lt_of_le hl l1))
  have gs:=List.suffix_cons x c'
  obtain ⟨ρ,er,hρ,p1⟩:=ag_ok (i1 (h1.trans es) (g0.suf gs) (g1.suf gs) (by cases k1 <;> first | exact hl | exact absurd b1.symm Bool.false_ne_true))
  obtain ⟨R',p2,r2⟩:=i2 (h2.trans er) (g0.suf (hρ.trans gs)) (g1.suf (hρ.trans gs)) (hm.to b b2)
  exact ⟨c',ρ,R',rfl,p1,p2,r2.mono (hρ.trans gs)⟩
theorem ag_name {u:List Nat} {y:Nat} (hu:nameR false s = y :: u) (e:s = c ++ s0) (g0:Cm c s0) (g1:Cm c s1) (hl:s0.length ≤ u.length) :
    ∃ u',u = u' ++ s0∧y :: u' <:+ c∧nameR false (c ++ s1) = y :: (u' ++ s1)∧c ≠ []:=by
  subst e
  obtain ⟨ρ,hρn,hρ,e1,e2⟩:=nameR_ag (s0:=s0) (s1:=s1) false c (by rw [hu];exact Nat.lt_succ_of_le hl) g0 g1
  obtain ⟨u',rfl,eu⟩:=cons_of (hu.symm.trans e1) hl
  exact ⟨u',eu,hρ,e2,fun q=>hρn (List.suffix_nil.mp (q ▸ hρ))⟩
theorem ag_gaps {e ε:List Nat} {y:Nat} {r:List Nat} (hg:skipGaps e = y :: r) (ee:e = ε ++ s0) (g0:Cm ε s0) (g1:Cm ε s1) (hl:s0.length ≤ r.length) :
    ∃ ρ,r = ρ ++ s0∧y :: ρ <:+ ε∧skipGaps (ε ++ s1) = y :: (ρ ++ s1):=by
  subst ee
  obtain ⟨ρ,hρn,hρ,e1,e2⟩:=skipGaps_ag (s0:=s0) (s1:=s1) ε (by rw [hg];exact Nat.lt_succ_of_le hl) g0 g1
  obtain ⟨ρ',rfl,er⟩:=cons_of (hg.symm.trans e1) hl
  exact ⟨ρ',er,hρ,e2⟩
theorem ag_cons {s0 s:List Nat} {y:Nat} (hc:c ≠ []) (e:y :: s = c ++ s0):∃ c',c = y :: c'∧s = c' ++ s0:=by
  cases c with
  | nil=>exact absurd rfl hc
  | cons z c'=>exact ⟨c',congrArg (· :: c') (List.cons.inj e).1.symm,(List.cons.inj e).2⟩
theorem ag_body {b:Bool} (h:P n (.word b s) R) (e:s = c ++ s0) (hl:s0.length < R.rest.length) (g0:Cm c s0) (g1:Cm c s1):isExp s = isExp (c ++ s1)∧∃ u,u ≠ []∧u <:+ c∧body s = u ++ s0∧body (c ++ s1) = u ++ s1:=by subst e;exact word_body h hl g0 g1
theorem ag_skip (e:s = c ++ s0) (hl:s0.length < (skipCmd false s).length) (g0:Cm c s0) (g1:Cm c s1):∃ ρ,ρ ≠ []∧ρ <:+ c∧skipCmd false s = ρ ++ s0∧skipCmd false (c ++ s1) = ρ ++ s1:=by subst e;exact skipCmd_ag false c hl g0 g1
end
theorem agree {n:Nat} {k:Call} {R:Rs} (h:P n k R):AgM n k R:=by
  induction h with
  | p_nil=>intro c s0 s1 e g0 g1 hm;exact absurd hm (Nat.not_lt_zero _)
  | p_stop hst =>
    intro c s0 s1 e g0 g1 hm
    obtain ⟨c',rfl,rfl⟩:=cons_of e (Nat.le_of_lt_succ hm)
    exact ⟨_,.p_stop hst,.ok (List.suffix_refl _) (List.suffix_refl _)⟩
  | p_varT h1 h2 i1 i2 =>
    intro c s0 s1 e g0 g1 hm
    obtain ⟨c',ρ,R',rfl,p1,p2,r2⟩:=ag_two i1 i2 rfl rfl rfl rfl rfl h1.restLe h2.restLe e g0 g1 hm
    exact ⟨R',.p_varT p1 p2,r2⟩
  | p_varV h1 h2 i1 i2 =>
    intro c s0 s1 e g0 g1 hm
    obtain ⟨c',ρ,R',rfl,p1,p2,r2⟩:=ag_two i1 i2 rfl rfl rfl rfl rfl h1.restLe h2.restLe e g0 g1 hm
    exact ⟨R',.p_varV p1 p2,r2⟩
  | p_varE h1 i1 =>
    intro c s0 s1 e g0 g1 hm
    obtain ⟨c',rfl,es⟩:=cons_of e (Nat.le_of_lt (Nat.lt_of_lt_of_le hm.2 h1.restLe))
    have gs:=List.suffix_cons 36 c'
    obtain ⟨ρ,er,hρ,p1⟩:=ag_err (i1 es (g0.suf gs) (g1.suf gs) hm)
    exact ⟨_,.p_varE p1,.err' er (hρ.trans gs)⟩
  | @p_br n K s r run acc R h1 h2 i1 i2 =>
    intro c s0 s1 e g0 g1 hm
    have hl:=Nat.lt_of_lt_of_le (hm.lt rfl) h2.restLe
    have l1:=Nat.lt_trans hl (brl_lt h1 rfl rfl)
    obtain ⟨c',rfl,es⟩:=cons_of e (Nat.le_of_lt (Nat.lt_of_lt_of_le l1 (skipCmd_suf false s).length_le))
    have gs:=List.suffix_cons 91 c'
    obtain ⟨σ,hσ,hσc,e1,e2⟩:=ag_skip es l1 (g0.suf gs) (g1.suf gs)
    have gσ:=hσc.trans gs
    obtain ⟨ρ,er,hρ,p1⟩:=ag_ok (i1 e1 (g0.suf gσ) (g1.suf gσ) (Nat.le_of_lt hl))
    obtain ⟨R',p2,r2⟩:=i2 er (g0.suf (hρ.trans gσ)) (g1.suf (hρ.trans gσ)) (hm.to rfl rfl)
    have h93:93 :: ρ <:+ c':=by
      obtain ⟨p,hp⟩:=(brl_93 h1 rfl rfl).trans (skipCmd_suf false s)
      rw [er,es,← List.cons_append,← List.append_assoc] at hp
      exact ⟨p,List.append_cancel_right hp⟩
    have eb:btw (c' ++ s1) (93 :: (ρ ++ s1)) = btw s (93 :: r):=btw_eq es (congrArg (93 :: ·) er) h93
    exact ⟨R',.p_br (s:=c' ++ s1) (r:=ρ ++ s1) (by rw [e2];exact p1) (by rw [eb];exact p2),r2.mono (hρ.trans gσ)⟩
  | @p_brE n K s r run acc t h1 i1 =>
    intro c s0 s1 e g0 g1 hm
    have l1:=Nat.lt_of_lt_of_le hm.2 h1.restLe
    obtain ⟨c',rfl,es⟩:=cons_of e (Nat.le_of_lt (Nat.lt_of_lt_of_le l1 (skipCmd_suf false s).length_le))
    have gs:=List.suffix_cons 91 c'
    obtain ⟨σ,hσ,hσc,e1,e2⟩:=ag_skip es l1 (g0.suf gs) (g1.suf gs)
    have gσ:=hσc.trans gs
    obtain ⟨ρ,er,hρ,p1⟩:=ag_err (i1 e1 (g0.suf gσ) (g1.suf gσ) hm)
    exact ⟨_,.p_brE (s:=c' ++ s1) (by rw [e2];exact p1),.err' er (hρ.trans gσ)⟩
  | @p_brk n b s run acc =>
    intro c s0 s1 e g0 g1 hm
    obtain ⟨c',rfl,hc⟩:=cons_of e (Nat.le_of_lt_succ hm)
    cases c' with
    | nil=>exact absurd (show s0.head? = some 10 by rw [← (show 10 :: s = s0 from hc)];rfl) (g0.one.1 rfl)
    | cons d c'' =>
      obtain ⟨rfl,rfl⟩:=List.cons.inj hc
      exact ⟨_,.p_brk,.ok (List.suffix_refl _) (List.suffix_refl _)⟩
  | @p_bs n K s run acc R hK h1 i1 =>
    intro c s0 s1 e g0 g1 hm
    have l1:=Nat.lt_of_lt_of_le (hm.lt rfl) h1.restLe
    obtain ⟨c',rfl,rfl⟩:=cons_of e (Nat.le_of_lt (Nat.lt_of_lt_of_le l1 (bs_suf s).length_le))
    have gs:=List.suffix_cons 92 c'
    obtain ⟨u,ρ,hρn,hρ,e1,e2⟩:=bs_ag (s0:=s0) (s1:=s1) c' l1
    obtain ⟨R',p2,r2⟩:=i1 (congrArg Prod.snd e1) (g0.suf (hρ.trans gs)) (g1.suf (hρ.trans gs)) (hm.to rfl rfl)
    rw [e1] at p2
    refine ⟨R',.p_bs (s:=c' ++ s1) (fun hb s' q=>?_) (by rw [e2];exact p2),r2.mono (hρ.trans gs)⟩
    obtain ⟨c'',rfl,_⟩:=ag_cons (fun z=>hρn (List.suffix_nil.mp (z ▸ hρ))) q.symm
    exact hK hb (c'' ++ s0) rfl
  | @p_run n K x s run acc R hp h1 i1 =>
    intro c s0 s1 e g0 g1 hm
    have l1:=Nat.lt_of_lt_of_le (hm.lt rfl) h1.restLe
    simp only [Call.tx] at l1 e
    rw [e] at l1
    obtain ⟨hne,hall⟩:=dropW_ag (plainK K) c (s0:=s0) l1
    have hd:=List.dropWhile_suffix (plainK K) (l:=c)
    obtain ⟨R',p2,r2⟩:=i1 ((congrArg (List.dropWhile (plainK K)) e).trans (hall s0).1) (g0.suf hd) (g1.suf hd) (hm.to rfl rfl)
    rw [e,(hall s0).2] at p2
    have hq:=hall s1
    obtain ⟨c',rfl,_⟩:=ag_cons (fun z=>hne (by rw [z];rfl)) e
    exact ⟨R',P.p_run (s:=c' ++ s1) hp (by rw [← List.cons_append,hq.1,hq.2];exact p2),r2.mono hd⟩
  | @v_brace n nm r hnm =>
    intro c s0 s1 e g0 g1 hm
    have hm:s0.length < r.length:=hm
    simp only [Call.tx] at e
    obtain ⟨ρ,rfl,hρ⟩:=suf_split (r:=r) (c:=c) (s:=s0) (e ▸ (List.suffix_cons 125 r).trans ((List.suffix_append nm _).trans (List.suffix_cons 123 _))) (Nat.le_of_lt hm)
    have ec:c = 123 :: (nm ++ 125 :: ρ):=by
      apply List.append_cancel_right (bs:=s0)
      rw [← e];simp
    subst ec
    refine ⟨.ok [varD nm .none] (ρ ++ s1) (ρ ++ s1),?_,.ok (List.suffix_refl _) hρ⟩
    have:=P.v_brace (n:=n) (r:=ρ ++ s1) hnm
    simpa [Call.put] using this
  | v_braceE _=>intro c s0 s1 e g0 g1 hm;exact absurd hm.1 (not_isX xq_ne.2.2.2.2.1 xq_ne.2.2.2.2.2.1)
  | @v_ix n s u ps m r h123 hu h1 i1 =>
    intro c s0 s1 e g0 g1 hm
    have l1:(41 :: r).length ≤ u.length:=h1.restLe
    have hm:s0.length < (41 :: r).length:=Nat.lt_succ_of_lt hm
    obtain ⟨u',eu,gu,e2,hcn⟩:=ag_name hu e g0 g1 (Nat.le_of_lt (Nat.lt_of_lt_of_le hm l1))
    obtain rfl:=pts_cases h1
    have gu':=(List.suffix_cons 40 u').trans gu
    obtain ⟨σ,es,hσ,p1⟩:=ag_ok (i1 eu (g0.suf gu') (g1.suf gu') hm)
    obtain ⟨σ',rfl,er⟩:=cons_of es (Nat.le_of_lt_succ hm)
    have eb:btw (c ++ s1) (40 :: (u' ++ s1)) = btw s (40 :: u):=btw_eq e (congrArg (40 :: ·) eu) gu
    refine ⟨.ok [varD (btw (c ++ s1) (40 :: (u' ++ s1))) (.tuple ps)] (σ' ++ s1) (σ' ++ s1),.v_ix (head_app hcn ((show s = c ++ s0 from e) ▸ h123)) e2 p1,?_⟩
    rw [eb]
    exact .ok1 er ((List.suffix_cons 41 σ').trans (hσ.trans gu'))
  | v_ixM _ _ _ _=>intro c s0 s1 e g0 g1 hm;exact absurd hm.1 (not_isX xq_ne.2.2.2.2.2.2.1 xq_ne.2.2.2.2.2.2.2.1)
  | @v_ixE n s u t r h123 hu h1 i1 =>
    intro c s0 s1 e g0 g1 hm
    obtain ⟨u',eu,gu,e2,hcn⟩:=ag_name hu e g0 g1 (Nat.le_of_lt (Nat.lt_of_lt_of_le hm.2 h1.restLe))
    have gu':=(List.suffix_cons 40 u').trans gu
    obtain ⟨σ,es,hσ,p1⟩:=ag_err (i1 eu (g0.suf gu') (g1.suf gu') hm)
    exact ⟨_,.v_ixE (head_app hcn ((show s = c ++ s0 from e) ▸ h123)) e2 p1,.err' es (hσ.trans gu')⟩
  | @v_none n s h123 h40 hu =>
    intro c s0 s1 e g0 g1 hm
    have hm:s0.length < s.length:=hm
    simp only [Call.tx] at e
    subst e
    obtain ⟨ρ,hρn,hρ,e1,e2⟩:=nameR_ag (s0:=s0) (s1:=s1) false c (by rw [hu];exact hm) g0 g1
    rw [hu] at e1
    have:ρ = c:=(List.append_cancel_right e1).symm
    subst this
    exact ⟨_,.v_none (head_app hρn h123) (head_app hρn h40) e2,.ok (List.suffix_refl _) (List.suffix_refl _)⟩
  | @v_name n s u h123 hu h40 hlt =>
    intro c s0 s1 e g0 g1 hm
    have hm:s0.length < u.length:=hm
    simp only [Call.tx] at e
    subst e
    obtain ⟨ρ,hρn,hρ,e1,e2⟩:=nameR_ag (s0:=s0) (s1:=s1) false c (by rw [hu];exact hm) g0 g1
    rw [hu] at e1
    subst e1
    have hcn:c ≠ []:=fun q=>by subst q;exact hρn (List.suffix_nil.mp hρ)
    refine ⟨.ok [varD (btw (c ++ s1) (ρ ++ s1)) .none] (ρ ++ s1) (ρ ++ s1),.v_name (head_app hcn h123) e2 (head_app hρn h40) (by simp at hlt ⊢;lia),?_⟩
    rw [btw_eq (s0:=s0) (s1:=s1) rfl rfl hρ]
    exact .ok (List.suffix_refl _) hρ
  | @w_brace n b s v x r hb hx =>
    intro c s0 s1 e g0 g1 hm
    have hm:s0.length < r.length:=hm
    obtain ⟨he,u,hun,huc,b0,b1⟩:=ag_body (P.w_brace (n:=n) (b:=b) hb hx) e hm g0 g1
    have hr:=(brc_suf _ _ _ _ _ _ hx).2
    obtain ⟨u',rfl,rfl⟩:=cons_of (hb.symm.trans b0) (by lia)
    obtain ⟨ρ,hρ,er,hx'⟩:=brc_ag (s1:=s1) _ _ _ _ _ _ hx (Nat.le_of_lt hm)
    refine ⟨_,.w_brace b1 hx',?_⟩
    rw [← he]
    exact .ok1 er (hρ.trans ((List.suffix_cons 123 u').trans huc))
  | w_braceE _ _=>intro c s0 s1 e g0 g1 hm;exact absurd hm.1 (not_isX xq_ne.2.2.1 xq_ne.2.2.2.1)
  | @w_quote n b s v ps m r hb h1 i1 =>
    intro c s0 s1 e g0 g1 hm
    have hm:s0.length < r.length:=hm
    obtain ⟨he,u,hun,huc,b0,b1⟩:=ag_body (P.w_quote (n:=n) (b:=b) hb h1) e hm g0 g1
    have l1:(34 :: r).length ≤ v.length:=h1.restLe
    have hm:s0.length < (34 :: r).length:=Nat.lt_succ_of_lt hm
    obtain ⟨u',rfl,eu⟩:=cons_of (hb.symm.trans b0) (Nat.le_of_lt (Nat.lt_of_lt_of_le hm l1))
    obtain rfl:=pts_cases h1
    have gu:u' <:+ c:=(List.suffix_cons 34 u').trans huc
    obtain ⟨σ,es,hσ,p1⟩:=ag_ok (i1 eu (g0.suf gu) (g1.suf gu) hm)
    obtain ⟨σ',rfl,er⟩:=cons_of es (Nat.le_of_lt_succ hm)
    refine ⟨_,.w_quote b1 p1,?_⟩
    rw [← he]
    exact .ok1 er ((List.suffix_cons 34 σ').trans (hσ.trans gu))
  | w_quoteM _ _ _=>intro c s0 s1 e g0 g1 hm;exact absurd hm.1 (not_isX xq_ne.2.2.2.2.2.2.2.2.1 xq_ne.2.2.2.2.2.2.2.2.2)
  | @w_quoteE n b s v t r hb h1 i1 =>
    intro c s0 s1 e g0 g1 hm
    obtain ⟨he,u,hun,huc,b0,b1⟩:=ag_body (P.w_quoteE (n:=n) (b:=b) hb h1) e hm.2 g0 g1
    obtain ⟨u',rfl,eu⟩:=cons_of (hb.symm.trans b0) (Nat.le_of_lt (Nat.lt_of_lt_of_le hm.2 h1.restLe))
    have gu:u' <:+ c:=(List.suffix_cons 34 u').trans huc
    obtain ⟨σ,es,hσ,p1⟩:=ag_err (i1 eu (g0.suf gu) (g1.suf gu) hm)
    exact ⟨_,.w_quoteE b1 p1,.err' es (hσ.trans gu)⟩
  | @w_bare n b s ps m r h123 h34 h1 i1 =>
    intro c s0 s1 e g0 g1 hm
    have hm:s0.length < r.length:=hm
    obtain ⟨he,u,hun,huc,b0,b1⟩:=ag_body (P.w_bare (n:=n) (b:=b) h123 h34 h1) e hm g0 g1
    obtain rfl:=pts_cases h1
    obtain ⟨σ,es,hσ,p1⟩:=ag_ok (i1 b0 (g0.suf huc) (g1.suf huc) hm)
    refine ⟨.ok [wordD (isExp (c ++ s1)) ps] (σ ++ s1) (σ ++ s1),.w_bare (by rw [b1];exact head_app hun (b0 ▸ h123)) (by rw [b1];exact head_app hun (b0 ▸ h34)) (by rw [b1];exact p1),?_⟩
    rw [← he]
    exact .ok1 es (hσ.trans huc)
  | @w_bareE n b s t r h123 h34 h1 i1 =>
    intro c s0 s1 e g0 g1 hm
    obtain ⟨he,u,hun,huc,b0,b1⟩:=ag_body (P.w_bareE (n:=n) (b:=b) h123 h34 h1) e hm.2 g0 g1
    obtain ⟨σ,es,hσ,p1⟩:=ag_err (i1 b0 (g0.suf huc) (g1.suf huc) hm)
    exact ⟨_,.w_bareE (by rw [b1];exact head_app hun (b0 ▸ h123)) (by rw [b1];exact head_app hun (b0 ▸ h34)) (by rw [b1];exact p1),.err' es (hσ.trans huc)⟩
  | s_err h1 i1 =>
    intro c s0 s1 e g0 g1 hm
    obtain ⟨σ,es,hσ,p1⟩:=ag_err (i1 e g0 g1 hm)
    exact ⟨_,.s_err p1,.err' es hσ⟩
  | s_end _ _ _=>intro c s0 s1 e g0 g1 hm;exact absurd hm (Nat.not_lt_zero _)
  | @s_nl n b s acc w m e c r h1 hg hc i1 =>
    intro C s0 s1 ee g0 g1 hm
    have hm:s0.length < r.length:=hm
    have lg:r.length < e.length:=by have:=(skipGaps_suf e).length_le;rw [hg] at this;exact this
    obtain ⟨rfl,_⟩:=word_cases h1
    obtain ⟨ε,eε,hε,p1⟩:=ag_ok (i1 ee g0 g1 (Nat.lt_trans hm lg))
    obtain ⟨ρ,er,hρ,e2⟩:=ag_gaps hg eε (g0.suf hε) (g1.suf hε) (Nat.le_of_lt hm)
    exact ⟨_,.s_nl p1 e2 hc,.ok' eε er ((List.suffix_cons c ρ).trans hρ) hε⟩
  | @s_cl n s acc w m e r h1 hg i1 =>
    intro C s0 s1 ee g0 g1 hm
    have hm:s0.length < (93 :: r).length:=hm
    have lg:(93 :: r).length ≤ e.length:=by have:=(skipGaps_suf e).length_le;rw [hg] at this;exact this
    obtain ⟨rfl,_⟩:=word_cases h1
    obtain ⟨ε,eε,hε,p1⟩:=ag_ok (i1 ee g0 g1 (Nat.lt_of_lt_of_le hm lg))
    obtain ⟨ρ,er,hρ,e2⟩:=ag_gaps hg eε (g0.suf hε) (g1.suf hε) (Nat.le_of_lt_succ hm)
    exact ⟨_,.s_cl p1 e2,.ok' (ρ:=93 :: ρ) eε (congrArg (93 :: ·) er) hρ hε⟩
  | @s_x n b s acc w m e c r h1 hec hg h10 h59 h93 i1 =>
    intro C s0 s1 ee g0 g1 hm
    have hl:=hm.2
    obtain ⟨rfl,_⟩:=word_cases h1
    obtain ⟨ε,eε,hε,p1⟩:=ag_ok (i1 ee g0 g1 hl)
    have hεn:=ne_of_len (ρ:=ε) (s:=s0) (eε ▸ hl)
    have ng1:=noGap_ag hεn (g0.suf hε) (g1.suf hε) (eε ▸ hg ▸ skipGaps_noGap _)
    obtain ⟨ε',rfl,_⟩:=ag_cons hεn (hec.symm.trans eε)
    refine ⟨.err (extraT (btw (C ++ s1) (c :: ε' ++ s1))) (c :: ε' ++ s1),.s_x p1 rfl (skipGaps_of ng1) h10 h59 h93,?_⟩
    rw [btw_eq ee eε hε]
    exact .err' eε hε
  | @s_next n b s acc w m e c r R h1 hg hlt h10 h59 h93 h2 i1 i2 =>
    intro C s0 s1 ee g0 g1 hm
    have hl:=Nat.lt_of_lt_of_le (hm.lt rfl) h2.restLe
    obtain ⟨rfl,_⟩:=word_cases h1
    obtain ⟨ε,eε,hε,p1⟩:=ag_ok (i1 ee g0 g1 (Nat.lt_trans hl hlt))
    obtain ⟨ρ,er,hρ,e2⟩:=ag_gaps hg eε (g0.suf hε) (g1.suf hε) (Nat.le_of_lt_succ hl)
    have gρ:=hρ.trans hε
    obtain ⟨R',p2,r2⟩:=i2 (c:=c :: ρ) (congrArg (c :: ·) er) (g0.suf gρ) (g1.suf gρ) (hm.to rfl rfl)
    exact ⟨R',.s_next p1 e2 (by rw [er,eε] at hlt;simp at hlt ⊢;lia) h10 h59 h93 p2,r2.mono gρ⟩
  | b_end=>intro c s0 s1 e g0 g1 hm;exact absurd hm.1 (not_isX xq_ne.1 xq_ne.2.1)
  | @b_cl n s =>
    intro c s0 s1 e g0 g1 hm
    obtain ⟨c',rfl,rfl⟩:=cons_of e hm
    exact ⟨_,.b_cl,.ok (List.suffix_refl _) (List.suffix_cons ..)⟩
  | @b_cmd n x s v m r R h93 h1 h2 i1 i2 =>
    intro c s0 s1 e g0 g1 hm
    have l2:s0.length < (skipCmd false r).length:=by
      cases R with
      | ok v' m' r'=>exact Nat.lt_of_le_of_lt hm (brl_lt h2 rfl rfl)
      | err t' r'=>exact Nat.lt_of_lt_of_le hm.2 h2.restLe
    obtain ⟨μ,ρ,eμ,er,hρ,hμ,p1⟩:=ag_okm (i1 e g0 g1 (Nat.lt_of_lt_of_le l2 (skipCmd_suf false r).length_le))
    have gρ:=hρ.trans hμ
    obtain ⟨σ,hσn,hσ,e1,e2⟩:=ag_skip er l2 (g0.suf gρ) (g1.suf gρ)
    have gσ:=hσ.trans gρ
    obtain ⟨R',p2,r2⟩:=i2 e1 (g0.suf gσ) (g1.suf gσ) (by cases R <;> exact hm)
    obtain ⟨c',rfl,_⟩:=ag_cons (fun q=>hσn (List.suffix_nil.mp (q ▸ gσ))) e
    exact ⟨R',.b_cmd h93 p1 (by rw [e2];exact p2),r2.mono gσ⟩
  | @b_err n x s t r h93 h1 i1 =>
    intro c s0 s1 e g0 g1 hm
    obtain ⟨ρ,er,hρ,p1⟩:=ag_err (i1 e g0 g1 hm)
    have hρn:=ne_of_len (ρ:=ρ) (s:=s0) (er ▸ hm.2)
    obtain ⟨c',rfl,_⟩:=ag_cons (fun q=>hρn (List.suffix_nil.mp (q ▸ hρ))) e
    exact ⟨_,.b_err h93 p1,.err' er hρ⟩
end Mine
end
section
open PySem
namespace Mine
noncomputable def Tw (t:List Nat) (K:Nat):List Nat:=t ++ 10 :: 10 :: List.replicate K 93
noncomputable def kk (K:Nat) (s:List Nat):Nat:=min K s.length
theorem kk_full {K:Nat} {s:List Nat} (h:K ≤ s.length):kk K s = K:=Nat.min_eq_left h
noncomputable def bb (s:List Nat):Nat:=s.count 91
theorem bb_suf {r s:List Nat} (h:r <:+ s):bb r ≤ bb s:=h.sublist.count_le 91
theorem bb_91 (s:List Nat):bb (91 :: s) = bb s + 1:=by unfold bb;simp
section
variable {t:List Nat} {K:Nat} {s:List Nat} {x:Nat}
theorem tw_far (h:x :: s <:+ Tw t K) (h1:x ≠ 10) (h2:x ≠ 93):K + 2 ≤ s.length:=by
  by_cases hl:K + 2 ≤ s.length
  · exact hl
  · exfalso
    have hz:(10 :: 10 :: List.replicate K 93) <:+ Tw t K:=List.suffix_append ..
    have:x :: s <:+ 10 :: 10 :: List.replicate K 93:=List.suffix_of_suffix_length_le h hz (by simp;lia)
    have hm:x ∈ 10 :: 10 :: List.replicate K 93:=this.subset (by simp)
    simp at hm
    rcases hm with e | e
    · exact h1 e
    · exact h2 e.2
theorem tw_10 (h:10 :: s <:+ Tw t K):K ≤ s.length:=by
  by_cases hl:K ≤ s.length
  · exact hl
  · exfalso
    have hz:List.replicate K 93 <:+ Tw t K:=⟨t ++ [10,10],by simp [Tw]⟩
    have:10 :: s <:+ List.replicate K 93:=List.suffix_of_suffix_length_le h hz (by simp;lia)
    have hm:10 ∈ List.replicate K 93:=this.subset (by simp)
    simp at hm
theorem tw_k1 (h:x :: s <:+ Tw t K) (hx:x ≠ 10) (hl:K ≤ s.length):K + 1 ≤ s.length:=by
  by_cases hl':K + 1 ≤ s.length
  · exact hl'
  · exfalso
    have hz:10 :: List.replicate K 93 <:+ Tw t K:=⟨t ++ [10],by simp [Tw]⟩
    have:x :: s <:+ 10 :: List.replicate K 93:=List.suffix_of_suffix_length_le h hz (by simp;lia)
    have:=this.eq_of_length (by simp;lia)
    simp at this
    exact hx this.1
theorem tw_93 (h:x :: s <:+ Tw t K) (hl:s.length < K):x = 93:=by
  have hz:List.replicate K 93 <:+ Tw t K:=⟨t ++ [10,10],by simp [Tw]⟩
  have:x :: s <:+ List.replicate K 93:=List.suffix_of_suffix_length_le h hz (by simp;lia)
  have hm:x ∈ List.replicate K 93:=this.subset (by simp)
  simp at hm
  exact hm.2
theorem suf_of_cons {r:List Nat} (h:x :: s <:+ r):s <:+ r:=(List.suffix_cons x s).trans h
end
section
variable {t:List Nat} {K:Nat}
theorem skipCmd_tw:∀ (b:Bool) (s:List Nat),s <:+ Tw t K→(if b then K + 1 else K) ≤ s.length→K ≤ (skipCmd b s).length
  | b,[],h,hl=>by cases b <;> simp at hl ⊢ <;> lia
  | false,c :: s,h,hl=>by
    simp only [Bool.false_eq_true,if_false,List.length_cons] at hl
    rw [skipCmd_f]
    by_cases hs:s.length < K
    · have:=tw_93 h hs
      subst this
      have hsk:skipCmd false (93 :: s) = 93 :: s:=skipCmd_of ⟨rfl,by decide,by decide,by decide,fun s' q=>by cases q.1⟩
      rw [skipCmd_f] at hsk
      rw [hsk];simpa using hl
    · split
      · exact skipCmd_tw false s (suf_of_cons h) (by simp;lia)
      · split
        · rename_i h35
          have:=tw_far h (by lia) (by lia)
          exact skipCmd_tw true s (suf_of_cons h) (by simp;lia)
        · split
          · simpa using hl
          · rename_i d s'
            split
            · rename_i hq
              have:=tw_far h (by lia) (by lia)
              simp only [List.length_cons] at this
              exact skipCmd_tw false s' (suf_of_cons (suf_of_cons h)) (by simp;lia)
            · simpa using hl
  | true,c :: s,h,hl=>by
    simp only [if_true,List.length_cons] at hl
    rw [skipCmd_t]
    split
    · rename_i h92
      have hf:=tw_far h (by lia) (by lia)
      split
      · simp at hf
      · rename_i d s'
        simp only [List.length_cons] at hf
        exact skipCmd_tw true s' (suf_of_cons (suf_of_cons h)) (by simp;lia)
    · split
      · exact skipCmd_tw false s (suf_of_cons h) (by simp;lia)
      · rename_i h10
        have:=tw_k1 h h10 (by lia)
        exact skipCmd_tw true s (suf_of_cons h) (by simp;lia)
theorem skipCmd_kk {s:List Nat} (h:s <:+ Tw t K):kk K (skipCmd false s) = kk K s:=by
  have hl:=(skipCmd_suf false s).length_le
  by_cases hk:K ≤ s.length
  · have:=skipCmd_tw false s h (by simpa using hk)
    exact (kk_full this).trans (kk_full hk).symm
  · have:skipCmd false s = s:=by
      cases s with
      | nil=>simp
      | cons x s =>
        have:=tw_93 h (by simp at hk;lia)
        subst this
        exact skipCmd_of ⟨rfl,by decide,by decide,by decide,fun s' q=>by cases q.1⟩
    rw [this]
theorem skipGaps_tw:∀ (s:List Nat),s <:+ Tw t K→K ≤ s.length→K ≤ (skipGaps s).length
  | [],h,hl=>by simpa using hl
  | c :: s,h,hl=>by
    rw [skipGaps_eq]
    by_cases hs:s.length < K
    · have:=tw_93 h hs
      subst this
      have hsk:skipGaps (93 :: s) = 93 :: s:=skipGaps_of ⟨rfl,fun s' q=>by cases q.1⟩
      rw [skipGaps_eq] at hsk
      rw [hsk];exact hl
    · split
      · exact skipGaps_tw s (suf_of_cons h) (by lia)
      · split
        · exact hl
        · rename_i d s'
          split
          · rename_i hq
            have:=tw_far h (by lia) (by lia)
            simp only [List.length_cons] at this
            exact skipGaps_tw s' (suf_of_cons (suf_of_cons h)) (by lia)
          · exact hl
theorem skipGaps_kk {s:List Nat} (h:s <:+ Tw t K):kk K (skipGaps s) = kk K s:=by
  have hl:=(skipGaps_suf s).length_le
  by_cases hk:K ≤ s.length
  · have:=skipGaps_tw s h hk
    exact (kk_full this).trans (kk_full hk).symm
  · have:skipGaps s = s:=by
      cases s with
      | nil=>simp
      | cons x s =>
        have:=tw_93 h (by simp at hk;lia)
        subst this
        exact skipGaps_of ⟨rfl,fun s' q=>by cases q.1⟩
    rw [this]
theorem nameR_tw:∀ (b:Bool) (s:List Nat),s <:+ Tw t K→K + 1 ≤ s.length→K + 1 ≤ (nameR b s).length
  | b,[],h,hl=>by simp at hl
  | b,c :: s,h,hl=>by
    rw [nameR_e]
    split
    · rename_i h58
      have hf:=tw_far h (by lia) (by lia)
      split
      · exact nameR_tw true s (suf_of_cons h) (by lia)
      · split
        · exact hl
        · rename_i d s'
          simp only [List.length_cons] at hf
          split
          · exact nameR_tw true s' (suf_of_cons (suf_of_cons h)) (by lia)
          · exact hl
    · split
      · rename_i hq
        have hc:c ≠ 10:=by rintro rfl;simp [digitv] at hq
        have:=tw_k1 h hc (by simp at hl;lia)
        exact nameR_tw false s (suf_of_cons h) this
      · exact hl
theorem blanks_tw:∀ (s:List Nat),s <:+ Tw t K→K + 1 ≤ s.length→K + 1 ≤ (blanks s).length
  | [],h,hl=>by simp at hl
  | c :: s,h,hl=>by
    rw [blanks_e]
    split
    · rename_i hq
      have:=tw_k1 h (by lia) (by simp at hl;lia)
      exact blanks_tw s (suf_of_cons h) this
    · exact hl
theorem hexv_tw:∀ (k:Nat) (v:Int) (s:List Nat),s <:+ Tw t K→K + 1 ≤ s.length→K + 1 ≤ (hexv k v s).2.length
  | 0,v,s,h,hl=>hl
  | _ + 1,v,[],h,hl=>by simp at hl
  | k + 1,v,c :: s,h,hl=>by
    unfold hexv
    split
    · split
      · exact hl
      · rename_i hq
        have hc:c ≠ 10:=by rintro rfl;simp [digitv] at hq
        have:=tw_k1 h hc (by simp at hl;lia)
        exact hexv_tw k _ s (suf_of_cons h) this
    · exact hl
theorem octv_tw:∀ (k:Nat) (v:Int) (s:List Nat),s <:+ Tw t K→K + 1 ≤ s.length→K + 1 ≤ (octv k v s).2.length
  | 0,v,s,h,hl=>hl
  | _ + 1,v,[],h,hl=>by simp at hl
  | k + 1,v,c :: s,h,hl=>by
    unfold octv
    split
    · split
      · exact hl
      · rename_i hq
        have hc:c ≠ 10:=by rintro rfl;simp [digitv] at hq
        have:=tw_k1 h hc (by simp at hl;lia)
        exact octv_tw k _ s (suf_of_cons h) this
    · exact hl
theorem bs_tw {s:List Nat} (h:92 :: s <:+ Tw t K):K + 1 ≤ (bs s).2.length:=by
  have hf:=tw_far h (by lia) (by lia)
  have hs:=suf_of_cons h
  cases s with
  | nil=>simp at hf
  | cons c s =>
    simp only [List.length_cons] at hf
    cases hk:known c with
    | some k=>rw [bs_some hk];show K + 1 ≤ s.length;lia
    | none =>
      rw [bs_none hk]
      split
      · exact blanks_tw s (suf_of_cons hs) (by lia)
      · split
        · unfold hexS
          split
          · show K + 1 ≤ s.length;lia
          · exact hexv_tw _ _ s (suf_of_cons hs) (by lia)
        · split
          · exact octv_tw _ _ _ hs (by simp;lia)
          · show K + 1 ≤ s.length;lia
theorem dropW_tw:∀ (s:List Nat),s <:+ Tw t K→K + 1 ≤ s.length→K + 1 ≤ (s.dropWhile (plainK (.bare true))).length
  | [],h,hl=>by simp at hl
  | c :: s,h,hl=>by
    by_cases hp:plainK (.bare true) c = true
    · rw [List.dropWhile_cons_of_pos hp]
      have hc:c ≠ 10:=by rintro rfl;simp [plainK,stop] at hp
      have:=tw_k1 h hc (by simp at hl;lia)
      exact dropW_tw s (suf_of_cons h) this
    · rw [List.dropWhile_cons_of_neg hp];exact hl
end
noncomputable def Tl (W:List Nat) (K:Nat):Call→Rs→Prop
  | .brl s,.ok _ _ r=>s <:+ W→kk K s + bb r ≤ kk K r + bb s + 1
  | .ws b s _,.ok _ _ r=>b = true→s <:+ W→kk K s + bb r ≤ kk K r + bb s
  | .word b s,.ok _ _ r=>b = true→s <:+ W→kk K s + bb r ≤ kk K r + bb s
  | .pts K' s _ _,.ok _ _ r=>K' = .bare true→s <:+ W→kk K s + bb r ≤ kk K r + bb s
  | .var s,.ok _ _ r=>36 :: s <:+ W→K ≤ r.length
  | .brl s,.err t _=>t = mBr→s <:+ W→kk K s ≤ bb s
  | .ws b s _,.err t _=>t = mBr→b = true→s <:+ W→kk K s ≤ bb s
  | .word b s,.err t _=>t = mBr→b = true→s <:+ W→kk K s ≤ bb s
  | .pts K' s _ _,.err t _=>t = mBr→K' ≠ .bare false→s <:+ W→kk K s ≤ bb s
  | .var s,.err t _=>t = mBr→36 :: s <:+ W→kk K s ≤ bb s
end Mine
end
section
set_option tactic.hygienic false
open PySem
namespace Mine
theorem m_ne:mBrace ≠ mBr∧mVar ≠ mBr∧mParen ≠ mBr∧mQuote ≠ mBr∧xQuote ≠ mBr∧xBrace ≠ mBr:=by decide
theorem extra_ne (c:List Nat):extraT c ≠ mBr:=by unfold extraT;split;exact m_ne.2.2.2.2.1;exact m_ne.2.2.2.2.2
theorem kk_le {K:Nat} (s:List Nat):kk K s ≤ K:=Nat.min_le_left _ _
theorem kk_cons {K:Nat} (x:Nat) (s:List Nat):kk K (x :: s) ≤ kk K s + 1:=by
  show min K (s.length + 1) ≤ min K s.length + 1
  rw [← Nat.add_min_add_right]
  exact Nat.le_min.mpr ⟨Nat.le_trans (Nat.min_le_left ..) (Nat.le_succ _),Nat.min_le_right ..⟩
theorem body_tw {t:List Nat} {K:Nat} {s:List Nat} (h:s <:+ Tw t K):kk K (body s) = kk K s:=by
  unfold body
  split
  · rename_i he
    rw [isExp_iff] at he
    obtain ⟨c,u,rfl,_⟩:=he
    have h3:125 :: c :: u <:+ Tw t K:=suf_of_cons (suf_of_cons h)
    have:=tw_far h3 (by lia) (by lia)
    show kk K (c :: u) = _
    rw [kk_full (by lia),kk_full (by simp at this ⊢;lia)]
  · rfl
noncomputable def Rk (K:Nat) (s r:List Nat):Prop:=kk K s + bb r ≤ kk K r + bb s
section
variable {t:List Nat} {K x:Nat} {s e r:List Nat}
theorem Rk.trans (h:Rk K s e) (k:Rk K e r):Rk K s r:=by unfold Rk at *;lia
theorem Rk.fin (h:Rk K s r) (k:kk K r ≤ bb r):kk K s ≤ bb s:=by unfold Rk at h;lia
theorem Rk.far (h:K ≤ r.length) (k:r <:+ s):Rk K s r:=by unfold Rk;rw [kk_full h];exact Nat.add_le_add (kk_le s) (bb_suf k)
theorem Rk.eq (h:kk K r = kk K s) (k:r <:+ s):Rk K s r:=by unfold Rk;rw [h];exact Nat.add_le_add_left (bb_suf k) _
theorem Rk.skip (h:s <:+ Tw t K):Rk K s (skipCmd false s):=.eq (skipCmd_kk h) (skipCmd_suf false s)
theorem Rk.gaps (h:s <:+ Tw t K):Rk K s (skipGaps s):=.eq (skipGaps_kk h) (skipGaps_suf s)
theorem Rk.body (h:s <:+ Tw t K):Rk K s (body s):=.eq (body_tw h) (body_suf s)
theorem tw_k (h:x :: s <:+ Tw t K) (h1:x ≠ 10:=by decide) (h2:x ≠ 93:=by decide):K ≤ s.length:=Nat.le_trans (Nat.le_add_right K 2) (tw_far h h1 h2)
theorem Rk.one (h:x :: s <:+ Tw t K) (h1:x ≠ 10:=by decide) (h2:x ≠ 93:=by decide):Rk K (x :: s) s:=.far (tw_k h h1 h2) (List.suffix_cons x s)
theorem Rk.br (hs:91 :: s <:+ Tw t K):kk K (91 :: s) + bb (skipCmd false s) + 1 ≤ kk K (skipCmd false s) + bb (91 :: s):=by
  have h1:Rk K s (skipCmd false s):=.skip (suf_of_cons hs)
  have h2:=tw_k hs
  have h3:=kk_full h2
  have h4:=kk_le (K:=K) (91 :: s)
  have h5:=bb_91 s
  unfold Rk at h1;lia
theorem Rk.cl:kk K (93 :: s) + bb s ≤ kk K s + bb (93 :: s) + 1:=by
  have:=kk_cons (K:=K) 93 s
  have b1:bb (93 :: s) = bb s:=by unfold bb;simp
  lia
theorem Tl_pts {k':Kd} {run run':List Nat} {acc acc':List PyData} {R:Rs} {T:List Nat} (core:s <:+ T→Rk K s r∧r <:+ T) (h2:Tl T K (.pts k' r run' acc') R):Tl T K (.pts k' s run acc) R:=by
  cases R with
  | ok v m r'=>exact fun hk hs=>(core hs).1.trans (h2 hk (core hs).2)
  | err τ r'=>exact fun ht hk hs=>(core hs).1.fin (h2 ht hk (core hs).2)
theorem Tl_ws {b:Bool} {acc acc':List PyData} {R:Rs} {T:List Nat} (core:b = true→s <:+ T→Rk K s r∧r <:+ T) (h2:Tl T K (.ws b r acc') R):Tl T K (.ws b s acc) R:=by
  cases R with
  | ok v m r'=>exact fun hb hs=>(core hb hs).1.trans (h2 hb (core hb hs).2)
  | err τ r'=>exact fun ht hb hs=>(core hb hs).1.fin (h2 ht hb (core hb hs).2)
theorem Tl_brl {R:Rs} {T:List Nat} (core:s <:+ T→Rk K s r∧r <:+ T) (h2:Tl T K (.brl r) R):Tl T K (.brl s) R:=by
  cases R with
  | ok v m r'=>exact fun hs=>by have:=h2 (core hs).2;have c:=(core hs).1;unfold Rk at c;lia
  | err τ r'=>exact fun ht hs=>(core hs).1.fin (h2 ht (core hs).2)
end
theorem Rk.run {t:List Nat} {K c:Nat} {s:List Nat} {k':Kd} (hp:plainK k' c = true) (hk:k' ≠ .bare false) (hs:c :: s <:+ Tw t K) (hn:(c :: s).dropWhile (plainK k') ≠ [] ∨ k' = .bare true):Rk K (c :: s) ((c :: s).dropWhile (plainK k')):=by
  refine .far ?_ (List.dropWhile_suffix _)
  have hy:=List.head?_dropWhile_not (plainK k') (c :: s)
  cases k' with
  | bare b =>
    cases b with
    | false=>exact absurd rfl hk
    | true =>
      have hc:c ≠ 10:=by rintro rfl;exact absurd hp (by decide)
      have hc3:c ≠ 93:=by rintro rfl;exact absurd hp (by decide)
      exact Nat.le_of_succ_le (dropW_tw (c :: s) hs (Nat.succ_le_succ (tw_k hs hc hc3)))
  | _ =>
    refine Classical.byContradiction fun hl=>?_
    rcases hn with hn | hn
    · cases hdw:(c :: s).dropWhile (plainK _) with
      | nil=>exact hn hdw
      | cons y u =>
        rw [hdw] at hy hl
        have h93:y = 93:=tw_93 (hdw ▸ (List.dropWhile_suffix _).trans hs) (Nat.lt_of_succ_lt (Nat.lt_of_not_le hl))
        subst h93
        exact Bool.noConfusion (show true = false from hy)
    · cases hn
theorem tail_l {t:List Nat} {K:Nat} {n:Nat} {k:Call} {R:Rs} (h:P n k R):Tl (Tw t K) K k R:=by
  induction h with
  | p_nil=>exact fun _ _=>Nat.le_refl _
  | p_stop _=>exact fun _ _=>Nat.le_refl _
  | p_varT h1 h2 i1 i2=>exact Tl_pts (fun hs=>⟨.far (i1 hs) (h1.suf.2.trans (List.suffix_cons _ _)),h1.suf.2.trans (suf_of_cons hs)⟩) i2
  | p_varV h1 h2 i1 i2=>exact Tl_pts (fun hs=>⟨.far (i1 hs) (h1.suf.2.trans (List.suffix_cons _ _)),h1.suf.2.trans (suf_of_cons hs)⟩) i2
  | p_varE h1 i1=>exact fun ht hk hs=>(Rk.one hs).fin (i1 ht hs)
  | @p_br n K' s r run acc R h1 h2 i1 i2 =>
    have hst:r <:+ s:=h1.suf.2.trans (skipCmd_suf false s)
    refine Tl_pts (fun hs=>⟨?_,hst.trans (suf_of_cons hs)⟩) i2
    have h3:=Rk.br hs
    have h4:=i1 ((skipCmd_suf false s).trans (suf_of_cons hs))
    unfold Rk;lia
  | @p_brE n K' s r run acc τ h1 i1 =>
    intro ht hk hs
    have h3:=Rk.br hs
    have h4:=i1 ht ((skipCmd_suf false s).trans (suf_of_cons hs))
    lia
  | p_brk=>exact fun _ _=>Nat.le_refl _
  | @p_bs n K' s run acc R hK h1 i1=>exact Tl_pts (fun hs=>⟨.far (Nat.le_of_succ_le (bs_tw hs)) ((bs_suf s).trans (List.suffix_cons _ _)),(bs_suf s).trans (suf_of_cons hs)⟩) i1
  | @p_run n K' c s run acc R hp h1 i1 =>
    cases R with
    | ok v m r' =>
      intro hk hs
      exact (Rk.run hp (by subst hk;exact fun q=>by cases q) hs (.inr hk)).trans (i1 hk ((List.dropWhile_suffix _).trans hs))
    | err τ r' =>
      intro ht hk hs
      exact (Rk.run hp hk hs (.inl fun q=>by rw [q] at h1;cases h1)).fin (i1 ht hk ((List.dropWhile_suffix _).trans hs))
  | @v_brace n nm r hnm=>exact fun hs=>tw_k (((List.suffix_append nm (125 :: r)).trans (List.suffix_cons 123 _)).trans (suf_of_cons hs))
  | v_braceE _=>exact fun ht _=>absurd ht m_ne.2.1
  | @v_ix n s u ps m r h123 hu h1 i1 =>
    exact fun hs=>tw_k (((show 41 :: r <:+ u from h1.suf.1.trans h1.suf.2).trans ((List.suffix_cons 40 u).trans (hu ▸ nameR_suf false s))).trans (suf_of_cons hs))
  | v_ixM _ _ _ _=>exact fun ht _=>absurd ht m_ne.2.2.1
  | @v_ixE n s u τ r h123 hu h1 i1 =>
    have h40:40 :: u <:+ s:=hu ▸ nameR_suf false s
    exact fun ht hs=>(Rk.far (tw_k (h40.trans (suf_of_cons hs))) ((List.suffix_cons 40 u).trans h40)).fin (i1 ht Kd.noConfusion (((List.suffix_cons 40 u).trans h40).trans (suf_of_cons hs)))
  | v_none _ _ _=>exact fun hs=>tw_k hs
  | @v_name n s u h123 hu h40 hlt=>exact fun hs=>Nat.le_of_succ_le (hu ▸ nameR_tw false s (suf_of_cons hs) (Nat.le_of_succ_le (tw_far hs (by decide) (by decide))))
  | @w_brace n b s v x r hb hx =>
    have h125:125 :: r <:+ s:=(brc_125 _ _ _ _ _ _ hx).trans ((List.suffix_cons 123 v).trans (hb ▸ body_suf s))
    exact fun _ hs=>Rk.far (tw_k (h125.trans hs)) ((List.suffix_cons 125 r).trans h125)
  | w_braceE _ _=>exact fun ht _ _=>absurd ht m_ne.1
  | @w_quote n b s v ps m r hb h1 i1 =>
    have h34:34 :: r <:+ s:=(h1.suf.1.trans h1.suf.2).trans ((List.suffix_cons 34 v).trans (hb ▸ body_suf s))
    exact fun _ hs=>Rk.far (tw_k (h34.trans hs)) ((List.suffix_cons 34 r).trans h34)
  | w_quoteM _ _ _=>exact fun ht _ _=>absurd ht m_ne.2.2.2.1
  | @w_quoteE n b s v τ r hb h1 i1 =>
    have h34:34 :: v <:+ s:=hb ▸ body_suf s
    exact fun ht _ hs=>(Rk.far (tw_k (h34.trans hs)) ((List.suffix_cons 34 v).trans h34)).fin (i1 ht Kd.noConfusion ((suf_of_cons h34).trans hs))
  | @w_bare n b s ps m r h123 h34 h1 i1=>exact fun hb hs=>(Rk.body hs).trans (i1 (congrArg Kd.bare hb) ((body_suf s).trans hs))
  | @w_bareE n b s t r h123 h34 h1 i1=>exact fun ht hb hs=>(Rk.body hs).fin (i1 ht (by subst hb;exact fun q=>by cases q) ((body_suf s).trans hs))
  | s_err _ i1=>exact i1
  | @s_end n b s acc w m e h1 hg i1=>exact fun hb hs=>(show Rk K s e from i1 hb hs).trans (hg ▸ Rk.gaps ((show e <:+ s from h1.suf.1.trans h1.suf.2).trans hs))
  | @s_nl n b s acc w m e c r h1 hg hc i1 =>
    intro hb hs
    have hr:c :: r <:+ e:=hg ▸ skipGaps_suf e
    have hrt:=hr.trans ((show e <:+ s from h1.suf.1.trans h1.suf.2).trans hs)
    refine (show Rk K s e from i1 hb hs).trans (.far ?_ (suf_of_cons hr))
    rcases hc with rfl | rfl
    · exact tw_10 hrt
    · exact tw_k hrt
  | @s_cl n s acc w m e r h1 hg i1=>exact fun hb hs=>(show Rk K s e from i1 hb hs).trans (hg ▸ Rk.gaps ((show e <:+ s from h1.suf.1.trans h1.suf.2).trans hs))
  | s_x _ _ _ _ _ _ _=>exact fun ht _ _=>absurd ht (extra_ne _)
  | @s_next n b s acc w m e c r R h1 hg hlt h10 h59 h93 h2 i1 i2 =>
    refine Tl_ws (fun hb hs=>?_) i2
    have hes:=(show e <:+ s from h1.suf.1.trans h1.suf.2).trans hs
    exact ⟨(show Rk K s e from i1 hb hs).trans (hg ▸ Rk.gaps hes),(show c :: r <:+ e from hg ▸ skipGaps_suf e).trans hes⟩
  | b_end=>intro _ _;simp [kk]
  | b_cl=>exact fun hs=>Rk.cl
  | @b_cmd n c s v m r R h93 h1 h2 i1 i2 =>
    refine Tl_brl (fun hs=>?_) i2
    have hrs:=(show r <:+ c :: s from h1.suf.1.trans h1.suf.2).trans hs
    exact ⟨(show Rk K (c :: s) r from i1 rfl hs).trans (.skip hrs),(skipCmd_suf false r).trans hrs⟩
  | b_err h93 h1 i1=>exact fun ht hs=>i1 ht rfl hs
end Mine
end
section
set_option tactic.hygienic false
open PySem
namespace Mine
theorem Cm.c93 (c:List Nat):Cm c [93]:=fun x _=>⟨fun _ q=>absurd (Option.some.inj q) (by decide),fun _ q=>absurd (Option.some.inj q) (by decide)⟩
theorem skipGaps_bd:∀ u:List Nat,skipGaps (u ++ [93]) = skipGaps u ++ [93]
  | []=>by rw [skipGaps_nil];exact skipGaps_of (s:=[93]) ⟨rfl,fun s' q=>by cases q.1⟩
  | c :: u=>by
    simp only [List.cons_append]
    rw [skipGaps_eq,skipGaps_eq]
    split
    · exact skipGaps_bd u
    · cases u with
      | nil=>simp
      | cons d u =>
        simp only [List.cons_append]
        split
        · exact skipGaps_bd u
        · rfl
theorem skipCmd_bd:∀ (b:Bool) (u:List Nat),skipCmd b (u ++ [93]) = [] ∨ skipCmd b (u ++ [93]) = skipCmd b u ++ [93]
  | false,[]=>.inr (by rw [skipCmd_nil];exact skipCmd_of (s:=[93]) ⟨rfl,by decide,by decide,by decide,fun s' q=>by cases q.1⟩)
  | true,[]=>.inl (by rw [List.nil_append,skipCmd_t];simp)
  | false,c :: u=>by
    simp only [List.cons_append]
    rw [skipCmd_f,skipCmd_f]
    split
    · exact skipCmd_bd false u
    · split
      · exact skipCmd_bd true u
      · cases u with
        | nil=>simp
        | cons d u =>
          simp only [List.cons_append]
          split
          · exact skipCmd_bd false u
          · exact .inr rfl
  | true,c :: u=>by
    simp only [List.cons_append]
    rw [skipCmd_t,skipCmd_t]
    split
    · cases u with
      | nil=>exact .inl (by simp)
      | cons d u=>exact skipCmd_bd true u
    · split
      · exact skipCmd_bd false u
      · exact skipCmd_bd true u
theorem nameR_bd:∀ (b:Bool) (u:List Nat),nameR b (u ++ [93]) = nameR b u ++ [93]
  | b,[]=>by
    rw [List.nil_append,nameR_e,if_neg (by decide),if_neg (by decide),nameR.eq_def] <;> rfl
  | b,c :: u=>by
    simp only [List.cons_append]
    rw [nameR_e,nameR_e]
    split
    · split
      · exact nameR_bd true u
      · cases u with
        | nil=>simp
        | cons d u =>
          simp only [List.cons_append]
          split
          · exact nameR_bd true u
          · rfl
    · split
      · exact nameR_bd false u
      · rfl
theorem blanks_bd:∀ u:List Nat,blanks (u ++ [93]) = blanks u ++ [93]
  | []=>by simp [blanks]
  | c :: u=>by
    simp only [List.cons_append]
    rw [blanks_e,blanks_e]
    split
    · exact blanks_bd u
    · rfl
theorem hexv_bd:∀ (k:Nat) (v:Int) (u:List Nat),hexv k v (u ++ [93]) = ((hexv k v u).1,(hexv k v u).2 ++ [93])
  | 0,v,u=>rfl
  | k + 1,v,[]=>by
    have:digitv 93 < 0:=by decide
    simp [hexv,this]
  | k + 1,v,c :: u=>by
    simp only [List.cons_append]
    unfold hexv
    split
    · split
      · rfl
      · exact hexv_bd k _ u
    · rfl
theorem octv_bd:∀ (k:Nat) (v:Int) (u:List Nat),octv k v (u ++ [93]) = ((octv k v u).1,(octv k v u).2 ++ [93])
  | 0,v,u=>rfl
  | k + 1,v,[]=>by
    have:digitv 93 < 0:=by decide
    simp [octv,this]
  | k + 1,v,c :: u=>by
    simp only [List.cons_append]
    unfold octv
    split
    · split
      · rfl
      · exact octv_bd k _ u
    · rfl
theorem bs_bd {u:List Nat} (hu:u ≠ []):bs (u ++ [93]) = ((bs u).1,(bs u).2 ++ [93]):=by
  cases u with
  | nil=>exact absurd rfl hu
  | cons c u =>
    simp only [List.cons_append]
    cases hk:known c with
    | some k=>rw [bs_some hk,bs_some hk]
    | none =>
      rw [bs_none hk,bs_none hk]
      split
      · rw [blanks_bd]
      · split
        · unfold hexS
          rw [hexv_bd]
          simp only [List.length_append,List.length_singleton,Nat.add_right_cancel_iff]
          split <;> rfl
        · split
          · have:=octv_bd 3 0 (c :: u)
            simp only [List.cons_append] at this
            rw [this]
          · rfl
theorem isExp_bd {u:List Nat} (hu:u ≠ [123,42,125]):isExp (u ++ [93]) = isExp u:=by
  by_cases hl:3 < u.length
  · have:=isExp_ag hl (Cm.c93 u) (Cm.nil u)
    rwa [List.append_nil] at this
  · have h1:isExp u = false:=by
      by_cases hx:isExp u = true
      · exact absurd (isExp_len hx) hl
      · simpa using hx
    rw [h1]
    by_cases hx:isExp (u ++ [93]) = true
    · exfalso
      rw [isExp_iff] at hx
      obtain ⟨c,w,e,_⟩:=hx
      rcases u with _ | ⟨a,_ | ⟨b,_ | ⟨d,_ | ⟨x,u⟩⟩⟩⟩
      · exact absurd (List.cons.inj e).1 (by decide)
      · exact absurd (List.cons.inj (List.cons.inj e).2).1 (by decide)
      · exact absurd (List.cons.inj (List.cons.inj (List.cons.inj e).2).2).1 (by decide)
      · obtain ⟨e1,e2⟩:=List.cons.inj e
        obtain ⟨e3,e4⟩:=List.cons.inj e2
        exact hu (by rw [e1,e3,(List.cons.inj e4).1])
      · exact hl (Nat.succ_le_succ (Nat.succ_le_succ (Nat.succ_le_succ (Nat.succ_le_succ (Nat.zero_le _)))))
    · simpa using hx
theorem body_bd {u:List Nat} (hu:u ≠ [123,42,125]):body (u ++ [93]) = body u ++ [93]:=by
  unfold body
  rw [isExp_bd hu]
  split
  · rename_i h
    have:=isExp_len h
    rw [List.drop_append_of_le_length (by lia)]
  · rfl
theorem plain_tf (c:Nat) (h:c ≠ 93):plainK (.bare true) c = plainK (.bare false) c:=by
  have:(c == 93) = false:=by simpa using h
  simp [plainK,stop,this]
theorem run_bd:∀ u:List Nat,(u.dropWhile (plainK (.bare true))).head? ≠ some 93→u.dropWhile (plainK (.bare true)) = u.dropWhile (plainK (.bare false))∧u.takeWhile (plainK (.bare true)) = u.takeWhile (plainK (.bare false)) ∧
    (u ++ [93]).dropWhile (plainK (.bare true)) = u.dropWhile (plainK (.bare true)) ++ [93]∧(u ++ [93]).takeWhile (plainK (.bare true)) = u.takeWhile (plainK (.bare true))
  | [],_=>⟨rfl,rfl,by rw [List.nil_append,List.dropWhile_cons_of_neg (by decide)];rfl,by rw [List.nil_append,List.takeWhile_cons_of_neg (by decide)];rfl⟩
  | c :: u,h=>by
    simp only [List.cons_append]
    by_cases hp:plainK (.bare true) c = true
    · have hc:c ≠ 93:=by rintro rfl;exact absurd hp (by decide)
      have hp':plainK (.bare false) c = true:=by rw [← plain_tf c hc];exact hp
      rw [List.dropWhile_cons_of_pos hp] at h
      obtain ⟨a,b,d,e⟩:=run_bd u h
      rw [List.dropWhile_cons_of_pos hp,List.dropWhile_cons_of_pos hp',List.takeWhile_cons_of_pos hp,List.takeWhile_cons_of_pos hp',List.dropWhile_cons_of_pos hp,List.takeWhile_cons_of_pos hp,a,b,d,e,a,b]
      exact ⟨rfl,rfl,rfl,rfl⟩
    · rw [List.dropWhile_cons_of_neg hp] at h
      have hc:c ≠ 93:=fun q=>h (by rw [q];rfl)
      have hp':¬ plainK (.bare false) c = true:=by rw [← plain_tf c hc];exact hp
      rw [List.dropWhile_cons_of_neg hp,List.dropWhile_cons_of_neg hp',List.takeWhile_cons_of_neg hp,List.takeWhile_cons_of_neg hp',List.dropWhile_cons_of_neg hp,List.takeWhile_cons_of_neg hp]
      exact ⟨rfl,rfl,rfl,rfl⟩
theorem app93 {a b:List Nat} (h:a ++ [93] = b ++ [93]):a = b:=List.append_cancel_right h
theorem cons93 {x:Nat} {s u:List Nat} (h:x :: s = u ++ [93]) (hx:x ≠ 93 ∨ s ≠ []):∃ u',u = x :: u'∧s = u' ++ [93]:=by
  cases u with
  | nil=>simp at h;exact absurd h (by rcases hx with q | q <;> simp [q])
  | cons y u=>simp at h;obtain ⟨rfl,rfl⟩:=h;exact ⟨u,rfl,rfl⟩
theorem suf93 {r u ρ:List Nat} (h1:r <:+ u ++ [93]) (h2:ρ ++ [93] <:+ r):∃ ρ',r = ρ' ++ [93]∧ρ' <:+ u:=suf_split h1 (by have:=h2.length_le;simp at this ⊢;lia)
theorem hd93 {u:List Nat} {x:Nat} (h:(u ++ [93]).head? ≠ some x):u.head? ≠ some x:=fun q=>by
  cases u with
  | nil=>cases q
  | cons y u=>exact h q
theorem pv_bd {n:Nat} {s:List Nat} {R:Rs} (h:PV n s R):∀ u v m ρ,s = u ++ [93]→R = .ok v m (ρ ++ [93])→P n (.var u) (.ok v ρ ρ):=by
  induction h with
  | @v_brace n nm r hnm =>
    intro u v m ρ hs hR
    obtain ⟨rfl,_,rfl⟩:=Rs.ok.inj hR
    obtain rfl:u = 123 :: (nm ++ 125 :: ρ):=app93 (by rw [← hs];simp)
    exact .v_brace hnm
  | @v_ix n s w ps m r h123 hu h1 =>
    intro u v m' ρ hs hR
    obtain ⟨rfl,_,er⟩:=Rs.ok.inj hR
    subst hs
    rw [nameR_bd] at hu
    obtain ⟨w',hw,ew⟩:=cons93 hu.symm (.inl (by decide))
    obtain rfl:=pts_cases h1
    obtain ⟨σ,es,hσ,p1⟩:=ag_ok (s1:=[]) (agree h1 (c:=w') (s0:=[93]) (s1:=[]) ew (Cm.c93 _) (Cm.nil _) (show [93].length < (41 :: r).length by rw [er];simp))
    obtain ⟨σ',rfl,e2⟩:=cons93 es (.inl (by decide))
    obtain rfl:=app93 (er.symm.trans e2)
    have p1:P n (.pts .paren (w' ++ []) [] []) (.ok ps (41 :: (ρ ++ [])) (41 :: (ρ ++ []))):=p1
    rw [List.append_nil,List.append_nil] at p1
    rw [ew]
    have eb:btw (u ++ [93]) (40 :: (w' ++ [93])) = btw u (40 :: w'):=btw_right (z:=[93]) (hw ▸ nameR_suf false u)
    rw [eb]
    exact .v_ix (s:=u) (hd93 h123) hw p1
  | @v_none n s h123 h40 hu =>
    intro u v m ρ hs hR
    obtain ⟨rfl,_,er⟩:=Rs.ok.inj hR
    subst hs
    obtain rfl:=app93 er
    rw [nameR_bd] at hu
    exact .v_none (hd93 h123) (hd93 h40) (app93 hu)
  | @v_name n s w h123 hu h40 hlt =>
    intro u v m ρ hs hR
    obtain ⟨rfl,_,er⟩:=Rs.ok.inj hR
    subst hs er
    rw [nameR_bd] at hu
    have hw:=app93 hu
    rw [btw_right (z:=[93]) (hw ▸ nameR_suf false u)]
    exact .v_name (hd93 h123) hw (hd93 h40) (by simp at hlt;lia)
  | _=>exact fun _ _ _ _ _ e=>nomatch e
theorem var_bd {n:Nat} {u ρ:List Nat} {v:List PyData} {m:List Nat} (h:P n (.var (u ++ [93])) (.ok v m (ρ ++ [93]))):P n (.var u) (.ok v ρ ρ):=pv_bd h.iv u v m ρ rfl rfl
theorem pt_93 {n:Nat} {K:Kd} {x run:List Nat} {acc:List PyData} {R:Rs} (h:PT n K x run acc R):∀ s v m r,x = 93 :: s→K = .bare true→R = .ok v m r→r = x∧v = fin run acc:=by
  have ne:∀ {c:Nat} {u s:List Nat} {M:Prop},c ≠ 93→c :: u = 93 :: s→M:=fun hc e=>absurd (List.cons.inj e).1 hc
  induction h with
  | p_nil=>exact fun _ _ _ _ e=>nomatch e
  | p_stop _=>exact fun _ _ _ _ _ _ e=>⟨(Rs.ok.inj e).2.2.symm,(Rs.ok.inj e).1.symm⟩
  | p_varT _ _=>exact fun _ _ _ _ e _ _=>ne (by decide) e
  | p_varV _ _=>exact fun _ _ _ _ e _ _=>ne (by decide) e
  | p_varE _=>exact fun _ _ _ _ e _ _=>ne (by decide) e
  | p_br _ _=>exact fun _ _ _ _ e _ _=>ne (by decide) e
  | p_brE _=>exact fun _ _ _ _ e _ _=>ne (by decide) e
  | p_brk=>exact fun _ _ _ _ e _ _=>ne (by decide) e
  | p_bs _ _=>exact fun _ _ _ _ e _ _=>ne (by decide) e
  | p_run hp _=>exact fun _ _ _ _ e hK _=>ne (fun q=>by subst q;subst hK;exact absurd hp (by decide)) e
theorem pts_93 {n:Nat} {s run:List Nat} {acc v:List PyData} {m r:List Nat} (h:P n (.pts (.bare true) (93 :: s) run acc) (.ok v m r)):r = 93 :: s:=(pt_93 h.ip _ _ _ _ rfl rfl rfl).1
noncomputable def PtB (n:Nat):Call→Rs→Prop
  | .pts K s run acc,R=>K = .bare true→∀ u v m ρ,s = u ++ [93]→R = .ok v m (ρ ++ [93])→ρ.head? ≠ some 93→P n (.pts (.bare false) u run acc) (.ok v ρ ρ)
  | _,_=>True
theorem rest_of {n:Nat} {k:Call} {R:Rs} {v:List PyData} {m w:List Nat} (h:P n k R) (e:R = .ok v m w):w <:+ k.tx:=by subst e;exact h.suf.1.trans h.suf.2
theorem var_bd' {n:Nat} {s r u ρ:List Nat} {v:List PyData} (h:P n (.var s) (.ok v r r)) (es:s = u ++ [93]) (er:r = ρ ++ [93]):P n (.var u) (.ok v ρ ρ):=by subst es;subst er;exact var_bd h
theorem suf93' {s r u ρ w:List Nat} (h1:r <:+ s) (es:s = u ++ [93]) (h2:w <:+ r) (ew:w = ρ ++ [93]):∃ ρ',r = ρ' ++ [93]∧ρ' <:+ u:=suf93 (es ▸ h1) (ew ▸ h2)
theorem brl_bd {n:Nat} {u ρ:List Nat} (h1:P n (.brl (skipCmd false (u ++ [93]))) (.ok [] (ρ ++ [93]) (ρ ++ [93]))):P n (.brl (skipCmd false u)) (.ok [] ρ ρ):=by
  rcases skipCmd_bd false u with hq | hq
  · rw [hq] at h1;exact nomatch List.suffix_nil.mp (brl_93 h1 rfl rfl)
  · rw [hq] at h1
    obtain ⟨σ,es,hσ,p1⟩:=ag_ok (agree h1 (c:=skipCmd false u) (s0:=[93]) (s1:=[]) rfl (Cm.c93 _) (Cm.nil _) (show [93].length ≤ _ by simp))
    obtain rfl:=app93 es
    have p1:P n (.brl (skipCmd false u ++ [])) (.ok [] (ρ ++ []) (ρ ++ [])):=p1
    rw [List.append_nil,List.append_nil] at p1
    exact p1
theorem pts_bd {n:Nat} {k:Call} {R:Rs} (h:P n k R):PtB n k R:=by
  induction h with
  | p_nil=>exact fun _ u v m ρ e1 _ _=>absurd e1.symm (List.append_ne_nil_of_right_ne_nil u (List.cons_ne_nil _ _))
  | @p_stop n K c s run acc hst =>
    intro hK u v m ρ e1 e2 hh
    subst hK
    obtain ⟨rfl,_,e2⟩:=Rs.ok.inj e2
    obtain rfl:u = ρ:=app93 (e1.symm.trans e2)
    cases u with
    | nil=>exact .p_nil
    | cons y u =>
      obtain rfl:=(List.cons.inj e1).1
      have q:(c == 93) = false:=beq_false_of_ne fun q=>hh (by rw [q];rfl)
      exact .p_stop (by simpa [stop,q] using hst)
  | p_varT h1 h2 i1 i2 =>
    intro hK u v m ρ e1 e2 hh
    obtain ⟨u',rfl,es⟩:=cons93 e1 (.inl (by decide))
    obtain ⟨ρ',er,hρ⟩:=suf93' h1.suf.2 es (rest_of h2 e2) rfl
    exact .p_varT (var_bd' h1 es er) (i2 hK ρ' v m ρ er e2 hh)
  | p_varV h1 h2 i1 i2 =>
    intro hK u v m ρ e1 e2 hh
    obtain ⟨u',rfl,es⟩:=cons93 e1 (.inl (by decide))
    obtain ⟨ρ',er,hρ⟩:=suf93' h1.suf.2 es (rest_of h2 e2) rfl
    exact .p_varV (var_bd' h1 es er) (i2 hK ρ' v m ρ er e2 hh)
  | @p_br n K s r run acc R h1 h2 i1 i2 =>
    intro hK u v m ρ e1 e2 hh
    obtain ⟨u',rfl,es⟩:=cons93 e1 (.inl (by decide))
    subst es
    obtain ⟨ρ',er,hρ⟩:=suf93 (h1.suf.2.trans (skipCmd_suf false (u' ++ [93]))) (rest_of h2 e2)
    have hi:=i2 hK ρ' v m ρ er e2 hh
    subst er
    obtain ⟨p,hp⟩:=(brl_93 h1 rfl rfl).trans (skipCmd_suf _ _)
    have h93':93 :: ρ' <:+ u':=⟨p,app93 (by rw [← hp,List.append_assoc];rfl)⟩
    have eb:btw (u' ++ [93]) (93 :: (ρ' ++ [93])) = btw u' (93 :: ρ'):=btw_right (z:=[93]) h93'
    rw [eb] at hi
    exact .p_br (brl_bd h1) hi
  | @p_brk n b s run acc =>
    intro hK u v m ρ e1 e2 hh
    obtain ⟨rfl,_,e2⟩:=Rs.ok.inj e2
    obtain rfl:u = ρ:=app93 (e1.symm.trans e2)
    obtain ⟨u',rfl,e3⟩:=cons93 e1 (.inl (by decide))
    obtain ⟨u'',rfl,_⟩:=cons93 e3 (.inl (by decide))
    exact .p_brk
  | @p_bs n K s run acc R hK h1 i1 =>
    intro hk u v m ρ e1 e2 hh
    obtain ⟨u',rfl,rfl⟩:=cons93 e1 (.inl (by decide))
    by_cases hu:u' = []
    · subst hu
      have hs:ρ ++ [93] <:+ []:=rest_of h1 e2
      exact absurd (List.suffix_nil.mp hs) (List.append_ne_nil_of_right_ne_nil ρ (List.cons_ne_nil _ _))
    · have hb:=bs_bd hu
      have hi:=i1 hk (bs u').2 v m ρ (congrArg Prod.snd hb) e2 hh
      rw [hb] at hi
      exact .p_bs (fun hb' s' q=>hK (by subst hk;rfl) (s' ++ [93]) (by rw [q];rfl)) hi
  | @p_run n K c s run acc R hp h1 i1 =>
    intro hK u v m ρ e1 e2 hh
    subst hK
    have hc:c ≠ 93:=by rintro rfl;exact absurd hp (by decide)
    obtain ⟨u',rfl,rfl⟩:=cons93 e1 (.inl hc)
    have hq:((c :: u').dropWhile (plainK (.bare true))).head? ≠ some 93:=by
      intro q
      cases hd:(c :: u').dropWhile (plainK (.bare true)) with
      | nil=>rw [hd] at q;cases q
      | cons y w =>
        rw [hd] at q;cases q
        have hw:=((dropW_ag (plainK (.bare true)) (c :: u') (s0:=[]) (by rw [List.append_nil,hd];exact Nat.zero_lt_succ _)).2 [93]).1
        rw [hd] at hw
        subst e2
        have h1':=h1
        rw [show c :: (u' ++ [93]) = (c :: u') ++ [93] from rfl,hw] at h1'
        exact hh (by rw [app93 (a:=ρ) (b:=93 :: w) (pts_93 h1')];rfl)
    obtain ⟨a,b,d,e⟩:=run_bd (c :: u') hq
    have hi:=i1 rfl _ v m ρ d e2 hh
    rw [show c :: (u' ++ [93]) = (c :: u') ++ [93] from rfl,e,a,b] at hi
    exact P.p_run (by rw [← plain_tf c hc];exact hp) hi
  | p_varE _ _=>exact fun _ _ _ _ _ _ e _=>nomatch e
  | p_brE _ _=>exact fun _ _ _ _ _ _ e _=>nomatch e
  | _=>exact True.intro
end Mine
end
section
set_option tactic.hygienic false
open PySem
namespace Mine
theorem bs_len' (s:List Nat):(bs s).1.length = 1:=by
  unfold bs
  split
  · rfl
  · split
    · rfl
    · split
      · rfl
      · split
        · unfold hexS;split <;> rfl
        · split <;> rfl
noncomputable abbrev star:List Nat:=[123,42,125]
theorem word_bd {n:Nat} {u ρ:List Nat} {v:List PyData} {m:List Nat} (h:P n (.word true (u ++ [93])) (.ok v m (ρ ++ [93]))) (hh:ρ.head? ≠ some 93) (hu:u ≠ star):P n (.word false u) (.ok v ρ ρ):=by
  have hb:=body_bd hu
  have he:=isExp_bd hu
  refine word_elim (M:=fun v _ r=>r = ρ ++ [93]→P n (.word false u) (.ok v ρ ρ)) h (fun w x r hbo hx er=>?_) (fun n' w ps m' r en hbo h1 er=>?_) (fun n' ps m' r en h123 h34 h1 er=>?_) rfl
  · rw [hb] at hbo
    obtain ⟨w',hw,ew⟩:=cons93 hbo.symm (.inl (by decide))
    subst ew
    obtain ⟨σ,hσ,e,hx'⟩:=brc_ag (s1:=[]) _ _ _ _ _ _ hx (by rw [er];simp)
    obtain rfl:=app93 (er.symm.trans e)
    rw [List.append_nil,List.append_nil] at hx'
    rw [he]
    exact .w_brace hw hx'
  · subst en
    rw [hb] at hbo
    obtain ⟨w',hw,ew⟩:=cons93 hbo.symm (.inl (by decide))
    obtain rfl:=pts_cases h1
    obtain ⟨σ,es,hσ,p1⟩:=ag_ok (agree h1 (c:=w') (s0:=[93]) (s1:=[]) ew (Cm.c93 _) (Cm.nil _) (show [93].length < (34 :: r).length by rw [er];simp))
    obtain ⟨σ',rfl,e2⟩:=cons93 es (.inl (by decide))
    obtain rfl:=app93 (er.symm.trans e2)
    have p1:P n' (.pts .quote (w' ++ []) [] []) (.ok ps (34 :: (ρ ++ [])) (34 :: (ρ ++ []))):=p1
    rw [List.append_nil,List.append_nil] at p1
    rw [he]
    exact .w_quote hw p1
  · subst en
    rw [hb] at h123 h34
    have hi:=pts_bd h1 rfl (body u) _ _ ρ hb (by rw [er]) hh
    rw [he]
    exact .w_bare (hd93 h123) (hd93 h34) hi
theorem word_star {n:Nat} {v:List PyData} {m r:List Nat} (h:P n (.word true (star ++ [93])) (.ok v m r)):v = [wordD true []]∧r = [93]:=by
  have hb:body (star ++ [93]) = [93]:=by decide
  have nb:∀ {c:Nat} {w:List Nat} {M:Prop},c ≠ 93→body (star ++ [93]) = c :: w→M:=fun hc e=>absurd (List.cons.inj (hb.symm.trans e)).1.symm hc
  refine word_elim (M:=fun v _ r=>v = [wordD true []]∧r = [93]) h (fun w x r e _=>nb (by decide) e) (fun n' w ps m' r _ e _=>nb (by decide) e) (fun n' ps m' r _ _ _ h1=>?_)
  rw [hb] at h1
  obtain ⟨rfl,rfl⟩:=pt_93 h1.ip _ _ _ _ rfl rfl rfl
  exact ⟨rfl,rfl⟩
theorem word_star' (n:Nat):P n (.word false star) (.ok [wordD false [textD [42]]] [] []):=by
  have he:isExp star = false:=by decide
  have hb:body star = 123 :: [42,125]:=by decide
  have:=P.w_brace (n:=n) (b:=false) (s:=star) hb (x:=[42]) (r:=[]) rfl
  rw [he] at this
  exact this
theorem fin0 {run:List Nat} {acc:List PyData} (h:fin run acc = []):run = []∧acc = []:=by
  unfold fin at h
  split at h
  · rename_i q;exact ⟨q,h⟩
  · simp at h
noncomputable def PtsN (s run:List Nat) (acc:List PyData):Rs→Prop
  | .ok v _ r=>v = []→run = []∧acc = []∧r = s
  | .err _ _=>True
noncomputable def PtsM:Call→Rs→Prop
  | .pts _ s run acc,R=>PtsN s run acc R
  | _,_=>True
theorem ap1 {α:Type} {a:List α} {x:α} (h:a ++ [x] = []):False:=by simp at h
theorem PtsN.no {s s' run run':List Nat} {acc acc':List PyData} {R:Rs} (h:PtsN s run acc R) (k:run = []→acc = []→False):PtsN s' run' acc' R:=by
  cases R with
  | err _ _=>trivial
  | ok _ _ _=>exact fun q=>(k (h q).1 (h q).2.1).elim
theorem pts_n {n:Nat} {k:Call} {R:Rs} (h:P n k R):PtsM k R:=by
  induction h with
  | p_nil=>exact fun q=>⟨(fin0 q).1,(fin0 q).2,rfl⟩
  | p_stop _=>exact fun q=>⟨(fin0 q).1,(fin0 q).2,rfl⟩
  | p_brk=>exact fun q=>⟨(fin0 q).1,(fin0 q).2,rfl⟩
  | p_varT _ _ _ i2=>exact PtsN.no i2 fun q _=>ap1 q
  | p_varV _ _ _ i2=>exact PtsN.no i2 fun _ q=>ap1 q
  | p_br _ _ _ i2=>exact PtsN.no i2 fun _ q=>ap1 q
  | @p_bs n K s run acc R _ _ i1 =>
    exact PtsN.no i1 fun h1 _=>by
      have h2:=Mine.bs_len' s
      rw [List.append_eq_nil_iff] at h1
      rw [h1.2] at h2;simp at h2
  | p_run hp _ i1 =>
    exact PtsN.no i1 fun h1 _=>by
      rw [List.append_eq_nil_iff,List.takeWhile_cons_of_pos hp] at h1
      simp at h1
  | _=>trivial
theorem pts_none {n:Nat} {k:Call} {R:Rs} (h:P n k R):∀ {K s run acc m r},k = .pts K s run acc→R = .ok [] m r→run = []∧acc = []∧r = s:=by
  rintro K s run acc m r rfl rfl
  exact pts_n h rfl
theorem brc_none {s r:List Nat} (h:brc 0 false [] s = some ([],r)):s = 125 :: r:=by
  cases s with
  | nil=>simp at h
  | cons c s =>
    rw [brc_eq] at h
    simp only [Bool.false_eq_true,false_and,if_false] at h
    have no:∀ {d b acc s' r},acc ≠ []→brc d b acc s' = some ([],r)→False:=fun ha hb=>by
      have:=brc_pre _ _ _ _ _ _ hb
      simp at this
      exact ha this
    split at h
    · exact (no (by simp) h).elim
    · split at h
      · rename_i hc;cases h;rw [hc]
      · split at h
        · split at h
          · cases h
          · split at h
            · exact (no (by simp) h).elim
            · exact (no (by simp) h).elim
        · exact (no (by simp) h).elim
theorem word_marks {n:Nat} {u:List Nat} {m:List Nat} (h:P n (.word true (u ++ [93])) (.ok [wordD true []] m [93])) (hu:u ≠ star):∃ p,u = p ++ [123,125] ∨ u = p ++ [34,34]:=by
  have hb:=body_bd hu
  have hsu:=body_suf u
  have inj:∀ {e:Bool} {ps:List PyData},[wordD e ps] = [wordD true []]→e = true∧ps = []:=fun q=>by
    have:=PyData.tuple.inj (List.cons.inj q).1
    exact ⟨PyData.bool.inj (List.cons.inj this).1,PyData.tuple.inj (List.cons.inj (List.cons.inj this).2).1⟩
  refine word_elim (M:=fun v _ r=>v = [wordD true []]→r = [93]→∃ p,u = p ++ [123,125] ∨ u = p ++ [34,34]) h (fun w x r hbo hx ev er=>?_) (fun n' w ps m' r en hbo h1 ev er=>?_) (fun n' ps m' r en h123 h34 h1 ev er=>?_) rfl rfl
  · rw [hb] at hbo
    obtain rfl:=(fin0 (inj ev).2).1
    have:=brc_none hx
    rw [this,er] at hbo
    have e:body u = [123,125]:=app93 hbo
    rw [e] at hsu
    obtain ⟨p,hp⟩:=hsu
    exact ⟨p,.inl hp.symm⟩
  · rw [hb] at hbo
    obtain rfl:=(inj ev).2
    obtain rfl:=pts_cases h1
    rw [← (pts_none h1 rfl rfl).2.2,er] at hbo
    have e:body u = [34,34]:=app93 hbo
    rw [e] at hsu
    obtain ⟨p,hp⟩:=hsu
    exact ⟨p,.inr hp.symm⟩
  · obtain ⟨hex,rfl⟩:=inj ev
    have hq:=(pts_none h1 rfl rfl).2.2
    rw [hb,er] at hq
    have e:body u = []:=(app93 (a:=[]) (b:=body u) hq).symm
    rw [isExp_bd hu] at hex
    have hl:=isExp_len hex
    unfold body at e
    rw [if_pos hex] at e
    exact absurd (List.drop_eq_nil_iff.mp e) (Nat.not_le_of_lt hl)
end Mine
end
section
set_option tactic.hygienic false
open PySem
namespace Mine
theorem sg93 {ε:List Nat} {c:Nat} {r:List Nat} (h:skipGaps (ε ++ [93]) = c :: r) (hc:c ≠ 93):∃ r',skipGaps ε = c :: r'∧r = r' ++ [93]:=by
  rw [skipGaps_bd] at h
  exact (cons93 h.symm (.inl hc)).imp fun r' q=>q
theorem head93 {ε:List Nat} {c:Nat} {r:List Nat} (h:skipGaps (ε ++ [93]) = c :: r) (hc:c ≠ 93):ε.head? ≠ some 93:=fun q=>by
  cases ε with
  | nil=>cases q
  | cons y ε =>
    cases q
    have:skipGaps (93 :: (ε ++ [93])) = 93 :: (ε ++ [93]):=skipGaps_of ⟨rfl,fun s' q=>by cases q.1⟩
    simp only [List.cons_append] at h
    rw [this] at h
    exact hc (List.cons.inj h).1.symm
theorem wsAt_bd {u:List Nat} (h:WsAt true (u ++ [93])):WsAt false u:=by
  obtain ⟨c,r,e,hg,h10,h59,h93⟩:=h
  obtain ⟨u',rfl,rfl⟩:=cons93 e.symm (.inl (h93 rfl))
  refine ⟨c,u',rfl,⟨hg.1,fun s' q=>?_⟩,h10,h59,fun q=>by cases q⟩
  obtain ⟨rfl,rfl⟩:=q
  exact hg.2 (s' ++ [93]) ⟨rfl,rfl⟩
noncomputable def WsC (n:Nat) (u:List Nat) (acc v:List PyData) (m ρ:List Nat):Prop :=
    ∃ μ,m = μ ++ [93]∧μ <:+ u∧ρ <:+ u∧((P n (.ws false u acc) (.ok v μ ρ)∧(v.getLast? = some (wordD true [])→μ = []→∃ p,u = p ++ [123,125] ∨ u = p ++ [34,34])) ∨
      (ρ = []∧μ = []∧star <:+ u∧∃ V,v = V ++ [wordD true []]∧P n (.ws false u acc) (.ok (V ++ [wordD false [textD [42]]]) [] [])))
noncomputable def WsB (n:Nat):Call→Rs→Prop
  | .ws b s acc,R=>b = true→∀ u v m ρ,s = u ++ [93]→R = .ok v m (ρ ++ [93])→ρ.head? ≠ some 93→WsC n u acc v m ρ
  | _,_=>True
theorem ws_bd {n:Nat} {k:Call} {R:Rs} (h:P n k R):WsB n k R:=by
  induction h with
  | s_err _ _=>exact fun _ _ _ _ _ _ e _=>nomatch e
  | s_x _ _ _ _ _ _ _=>exact fun _ _ _ _ _ _ e _=>nomatch e
  | s_end _ _ _=>exact fun _ _ _ _ ρ _ e _=>absurd (Rs.ok.inj e).2.2.symm (List.append_ne_nil_of_right_ne_nil ρ (List.cons_ne_nil _ _))
  | @s_nl n b s acc w m e c r h1 hg hc i1 =>
    intro hb u v m' ρ es e2 hh
    subst hb es
    obtain ⟨rfl,rfl,er⟩:=Rs.ok.inj e2
    subst er
    have hc93:c ≠ 93:=by rcases hc with rfl | rfl <;> decide
    obtain ⟨rfl,_⟩:=word_cases h1
    have hr:c :: (ρ ++ [93]) <:+ m:=hg ▸ skipGaps_suf m
    obtain ⟨ε,rfl,hε⟩:=suf93 h1.suf.2 ((List.suffix_cons c _).trans hr)
    obtain ⟨r',hg',hr'⟩:=sg93 hg hc93
    have:=app93 hr'
    subst this
    have hu:u ≠ star:=fun q=>by
      subst q
      have:=(word_star h1).2
      rw [this] at hg
      exact hc93 (List.cons.inj hg).1.symm
    have hw:=word_bd h1 (head93 hg hc93) hu
    refine ⟨ε,rfl,hε,?_,.inl ⟨.s_nl hw hg' hc,fun _ q=>?_⟩⟩
    · exact (List.suffix_cons c ρ).trans ((hg' ▸ skipGaps_suf ε).trans hε)
    · subst q;simp at hg'
  | @s_cl n s acc w m e r h1 hg i1 =>
    intro _ u v m' ρ es e2 hh
    subst es
    obtain ⟨rfl,rfl,e3⟩:=Rs.ok.inj e2
    have hρ:ρ = []:=by
      cases ρ with
      | nil=>rfl
      | cons y ρ=>simp at e3;exact absurd (by rw [e3.1];rfl) hh
    subst hρ
    simp only [List.nil_append,List.cons.injEq,true_and] at e3
    subst e3
    obtain ⟨rfl,_⟩:=word_cases h1
    have hr:[93] <:+ m:=hg ▸ skipGaps_suf m
    obtain ⟨ε,rfl,hε⟩:=suf93 (ρ:=[]) h1.suf.2 hr
    rw [skipGaps_bd] at hg
    have hg':skipGaps ε = []:=app93 (b:=[]) hg
    by_cases hu:u = star
    · subst hu
      obtain ⟨e4,e5⟩:=word_star h1
      have:ε = []:=app93 (b:=[]) e5
      subst this
      simp only [List.cons.injEq,and_true] at e4
      subst e4
      exact ⟨[],rfl,List.nil_suffix,List.nil_suffix,.inr ⟨rfl,rfl,List.suffix_refl _,acc,rfl,.s_end (word_star' n) rfl⟩⟩
    · have hhe:ε.head? ≠ some 93:=fun q=>by
        cases ε with
        | nil=>cases q
        | cons y ε =>
          cases q
          have:skipGaps (93 :: ε) = 93 :: ε:=skipGaps_of ⟨rfl,fun s' q=>by cases q.1⟩
          rw [this] at hg';cases hg'
      have hw:=word_bd h1 hhe hu
      refine ⟨ε,rfl,hε,List.nil_suffix,.inl ⟨.s_end hw hg',fun q1 q2=>?_⟩⟩
      subst q2
      simp only [List.getLast?_append,List.getLast?_singleton,Option.some_or,Option.some.injEq] at q1
      subst q1
      exact word_marks h1 hu
  | @s_next n b s acc w m e c r R h1 hg hlt h10 h59 h93 h2 i1 i2 =>
    intro hb u v m' ρ es e2 hh
    subst hb es
    have hc93:=h93 rfl
    obtain ⟨rfl,_⟩:=word_cases h1
    have hr:c :: r <:+ m:=hg ▸ skipGaps_suf m
    obtain ⟨ε,rfl,hε⟩:=suf93 h1.suf.2 ((rest_of h2 e2).trans hr)
    obtain ⟨r',hg',rfl⟩:=sg93 hg hc93
    have hu:u ≠ star:=fun q=>by
      subst q
      have:=(word_star h1).2
      rw [this] at hg
      exact hc93 (List.cons.inj hg).1.symm
    have hw:=word_bd h1 (head93 hg hc93) hu
    have hcr:c :: r' <:+ u:=(hg' ▸ skipGaps_suf ε).trans hε
    obtain ⟨μ,rfl,hμ,hρ,hi⟩:=i2 rfl (c :: r') v m' ρ rfl e2 hh
    have hlt':(c :: r').length < ε.length:=by simp at hlt ⊢;omega
    refine ⟨μ,rfl,hμ.trans hcr,hρ.trans hcr,?_⟩
    rcases hi with ⟨p,hm⟩ | ⟨rfl,rfl,hst,V,rfl,p⟩
    · refine .inl ⟨.s_next hw hg' hlt' h10 h59 (fun q=>by cases q) p,fun q1 q2=>?_⟩
      obtain ⟨p,hp⟩:=hm q1 q2
      obtain ⟨z,hz⟩:=hcr
      rcases hp with hp | hp
      · exact ⟨z ++ p,.inl (by rw [← hz,hp];simp)⟩
      · exact ⟨z ++ p,.inr (by rw [← hz,hp];simp)⟩
    · exact .inr ⟨rfl,rfl,hst.trans hcr,V,rfl,.s_next hw hg' hlt' h10 h59 (fun q=>by cases q) p⟩
  | _=>exact True.intro
noncomputable abbrev Cmd:=List PyData × List Nat × List Nat × List Nat
inductive Cs (n:Nat) (b:Bool):List Nat→List Cmd→Option Str→Prop
  | done {s}:(skipCmd false s = [] ∨ (b = true∧∃ r,skipCmd false s = 93 :: r))→Cs n b s [] none
  | err {s τ r}:WsAt b (skipCmd false s)→P n (.ws b (skipCmd false s) []) (.err τ r)→Cs n b s [] (some τ)
  | step {s v m r L f}:WsAt b (skipCmd false s)→P n (.ws b (skipCmd false s) []) (.ok v m r)→Cs n b r L f→Cs n b s ((v,skipCmd false s,m,r) :: L) f
noncomputable def CsB (m:Nat):Call→Rs→Prop
  | .brl x,R=>∀ n s,m = n + 1→x = skipCmd false s→∃ L f,Cs n true s L f∧(∀ v a r,R = .ok v a r→f = none)∧∀ τ r,R = .err τ r→f = some τ ∨ (f = none∧τ = mBr)
  | _,_=>True
theorem at_brl {c:Nat} {u s:List Nat} (h93:c ≠ 93) (e:c :: u = skipCmd false s):WsAt true (skipCmd false s):=e ▸ (show CmdAt (c :: u) from e ▸ skipCmd_at false s).wsAt h93
theorem cs_of_brl {m:Nat} {k:Call} {R:Rs} (h:P m k R):CsB m k R:=by
  induction h with
  | b_end=>exact fun n s _ e2=>⟨[],none,.done (.inl e2.symm),(fun _ _ _ q=>nomatch q),fun τ r q=>.inr ⟨rfl,(Rs.err.inj q).1.symm⟩⟩
  | @b_cl m u=>exact fun n s _ e2=>⟨[],none,.done (.inr ⟨rfl,_,e2.symm⟩),fun _ _ _ _=>rfl,fun τ r q=>nomatch q⟩
  | @b_cmd m c u v a r R h93 h1 h2 i1 i2 =>
    intro n s e1 e2
    obtain rfl:=Nat.succ.inj e1
    obtain ⟨L,f,h3,h4,h5⟩:=i2 m r rfl rfl
    exact ⟨_,f,.step (at_brl h93 e2) (e2 ▸ h1) h3,h4,h5⟩
  | @b_err m c u τ r h93 h1 i1 =>
    intro n s e1 e2
    obtain rfl:=Nat.succ.inj e1
    exact ⟨[],some τ,.err (at_brl h93 e2) (e2 ▸ h1),(fun _ _ _ q=>nomatch q),fun τ' r' q=>.inl (congrArg some (Rs.err.inj q).1)⟩
  | _=>exact True.intro
inductive Al (inner:List Nat):List Cmd→List Cmd→Prop
  | nil:Al inner [] []
  | exc {V w}:star <:+ inner→w <:+ inner→Al inner [(V ++ [wordD true []],w ++ [93],[93],[93])] [(V ++ [wordD false [textD [42]]],w,[],[])]
  | cons {v w μ ρ L L'}:(L = []→v.getLast? = some (wordD true [])→μ = []→¬ star <:+ inner)→w <:+ inner→μ <:+ inner→ρ <:+ inner→Al inner L L'→Al inner ((v,w ++ [93],μ ++ [93],ρ ++ [93]) :: L) ((v,w,μ,ρ) :: L')
theorem no_star {inner p q:List Nat} {a:Nat} (h:p ++ [a,q.headD 0] <:+ inner) (hs:star <:+ inner) (ha:a ≠ 42 ∨ q.headD 0 ≠ 125):False:=by
  have h2:[a,q.headD 0] <:+ inner:=(List.suffix_append p _).trans h
  have h3:[42,125] <:+ inner:=(show [42,125] <:+ star from ⟨[123],rfl⟩).trans hs
  have h4:=(List.suffix_of_suffix_length_le h2 h3 (Nat.le_refl _)).eq_of_length rfl
  simp only [List.cons.injEq,and_true] at h4
  exact ha.elim (fun z=>z h4.1) (fun z=>z h4.2)
theorem pb_93 {n:Nat} {x:List Nat} {R:Rs} (h:PB n x R):∀ s v m r,x = 93 :: s→R = .ok v m r→r = s:=by
  induction h with
  | b_end=>exact fun _ _ _ _ e=>nomatch e
  | b_cl=>exact fun _ _ _ _ e q=>(Rs.ok.inj q).2.2.symm.trans (List.cons.inj e).2
  | b_cmd h _ _=>exact fun _ _ _ _ e _=>absurd (List.cons.inj e).1 h
  | b_err h _=>exact fun _ _ _ _ _ q=>nomatch q
noncomputable def AlB (m:Nat):Call→Rs→Prop
  | .brl x,R=>∀ n u inner,m = n + 1→x = skipCmd false (u ++ [93])→R = .ok [] [] []→u <:+ inner→∃ L L',Cs n true (u ++ [93]) L none∧Cs n false u L' none∧Al inner L L'
  | _,_=>True
theorem alone_of_brl {m:Nat} {k:Call} {R:Rs} (h:P m k R):AlB m k R:=by
  induction h with
  | b_end=>exact fun _ _ _ _ _ e=>nomatch e
  | b_err _ _=>exact fun _ _ _ _ _ e=>nomatch e
  | @b_cl m w =>
    intro n u inner e1 e2 e3 hu
    obtain rfl:w = []:=(Rs.ok.inj e3).2.1
    refine ⟨[],[],.done (.inr ⟨rfl,_,e2.symm⟩),.done (.inl ?_),.nil⟩
    rcases skipCmd_bd false u with hq | hq
    · exact nomatch e2.trans hq
    · exact (app93 (a:=[]) (e2.trans hq)).symm
  | @b_cmd m c w v a r R h93 h1 h2 i1 i2 =>
    intro n u inner e1 e2 e3 hu
    obtain rfl:=Nat.succ.inj e1
    subst e3
    rcases skipCmd_bd false u with hq | hq
    · exact nomatch e2.trans hq
    · have hwT:=at_brl h93 e2
      have e2':=e2.trans hq
      rw [e2'] at h1
      have hwF:WsAt false (skipCmd false u):=wsAt_bd (by rw [← hq];exact hwT)
      have h1':P m (.ws true (skipCmd false (u ++ [93])) []) (.ok v a r):=hq ▸ h1
      obtain ⟨ρ,rfl,hρ⟩:=suf93 (ρ:=[]) (h1.suf.1.trans h1.suf.2) ((brl_93 h2 rfl rfl).trans (skipCmd_suf false r))
      have hh:ρ.head? ≠ some 93:=fun q=>by
        cases ρ with
        | nil=>cases q
        | cons y ρ =>
          cases q
          have:skipCmd false (93 :: ρ ++ [93]) = 93 :: (ρ ++ [93]):=skipCmd_of ⟨rfl,by decide,by decide,by decide,fun s' q=>by cases q.1⟩
          exact absurd (pb_93 h2.ib _ _ _ _ this rfl).symm (List.append_ne_nil_of_right_ne_nil ρ (List.cons_ne_nil _ _))
      have hsu:skipCmd false u <:+ inner:=(skipCmd_suf false u).trans hu
      obtain ⟨μ,rfl,hμ,hρ',hi⟩:=ws_bd h1 rfl _ _ _ _ rfl rfl hh
      rcases hi with ⟨p,hm⟩ | ⟨rfl,rfl,hst,V,rfl,p⟩
      · obtain ⟨L,L',c1,c2,c3⟩:=i2 m ρ inner rfl rfl rfl (hρ'.trans hsu)
        refine ⟨_,_,.step hwT h1' c1,.step hwF p c2,?_⟩
        rw [hq]
        refine .cons (fun _ q1 q2 q3=>?_) hsu (hμ.trans hsu) (hρ'.trans hsu) c3
        obtain ⟨z,hz⟩:=hm q1 q2
        rcases hz with hz | hz
        · exact no_star (q:=[125]) (hz ▸ hsu) q3 (.inl (by decide))
        · exact no_star (q:=[34]) (hz ▸ hsu) q3 (.inl (by decide))
      · refine ⟨_,_,.step hwT h1' (.done (.inr ⟨rfl,[],skipCmd_of ⟨rfl,by decide,by decide,by decide,fun s' q=>by cases q.1⟩⟩)),.step hwF p (.done (.inl rfl)),?_⟩
        rw [hq]
        exact .exc (hst.trans hsu) hsu
  | _=>exact True.intro
end Mine
end
section
open PySem PySem.W PyProof.Rows PySem.Spec PySem.Calls
namespace Mine
noncomputable def okc (s:List Nat):Prop:=∀ c ∈ s,c < 1114112
theorem okc_suf {r s:List Nat} (h:okc s) (hr:r <:+ s):okc r:=fun c hc=>h c (hr.subset hc)
theorem okc_app {a b:List Nat} (ha:okc a) (hb:okc b):okc (a ++ b):=fun c hc=>(List.mem_append.mp hc).elim (ha c) (hb c)
theorem okc_take {s:List Nat} (h:okc s) (n:Nat):okc (s.take n):=fun c hc=>h c (List.mem_of_mem_take hc)
theorem okc_nil:okc []:=fun c hc=>by cases hc
theorem okc_cons {x:Nat} {s:List Nat} (hx:x < 1114112) (h:okc s):okc (x :: s):=fun c hc=>by
  rcases List.mem_cons.mp hc with rfl | hc
  · exact hx
  · exact h c hc
theorem lay_Sx {s:List Nat} (h:okc s):(Sx s).canLay0 = true:=by
  show PyData.strOk (mk s) = true
  unfold PyData.strOk mk
  rw [Array.all_eq_true]
  intro i hi
  have hi':i < s.length:=by simpa using hi
  have:=h s[i] (List.getElem_mem hi')
  simpa using this
theorem mem_tw {α:Type} {p:α→Bool}:∀ {l:List α} {a:α},a ∈ l.takeWhile p→a ∈ l
  | x :: l,a,h=>by
    rw [List.takeWhile_cons] at h
    split at h
    · rcases List.mem_cons.mp h with rfl | h
      · exact List.mem_cons_self
      · exact List.mem_cons_of_mem _ (mem_tw h)
    · cases h
theorem ite_lt {c n m k B:Nat} {x:Option Nat} (hm:m < B) (hx:x = some k→k < B) (h:(if c = n then some m else x) = some k):k < B:=by
  by_cases e:c = n
  · rw [if_pos e] at h;cases h;exact hm
  · rw [if_neg e] at h;exact hx h
theorem okc_known {c k:Nat} (h:known c = some k):k < 1114112 :=
  by unfold known at h;revert h;refine ite_lt ?_ (ite_lt ?_ (ite_lt ?_ (ite_lt ?_ (ite_lt ?_ (ite_lt ?_ (ite_lt ?_ fun q=>nomatch q)))))) <;> decide
theorem okc_bs {s:List Nat} (h:okc s):okc (bs s).1:=by
  cases s with
  | nil=>exact okc_cons (by lia) okc_nil
  | cons c s =>
    have hc:=h c (by simp)
    cases hk:known c with
    | some k=>rw [bs_some hk];exact okc_cons (okc_known hk) okc_nil
    | none =>
      rw [bs_none hk]
      split
      · exact okc_cons (by lia) okc_nil
      · split
        · unfold hexS
          split
          · exact okc_cons hc okc_nil
          · have:=hexv_bound (hexMost c) 0 s (by lia) (by lia)
            exact okc_cons (by lia) okc_nil
        · split
          · have:=octv_bound 3 0 (c :: s) (by lia) (by lia)
            exact okc_cons (by lia) okc_nil
          · exact okc_cons hc okc_nil
theorem okc_brc (d:Nat) (b:Bool) (acc s x r:List Nat) (ha:okc acc) (hs:okc s) (h:brc d b acc s = some (x,r)):okc x :=
  brc_ind (M:=fun acc s x _=>okc acc→okc s→okc x) (fun _ _ ha _=>ha) (fun acc p add s _ _ _ hy q ha hs=>q (fun c hc=>(List.mem_append.mp hc).elim (ha c) fun hc=>(hy c hc).elim (fun z=>hs c (List.mem_append_left _ z)) fun z=>by rw [z];decide) fun c hc=>hs c (List.mem_append_right _ hc)) _ d b acc s x r (Nat.le_refl _) h ha hs
noncomputable def LyA (n:Nat) (v:List PyData):Prop:=PyData.canLayAll0 v = true∧PyData.depthAll v ≤ n
theorem LyA.nil (n:Nat):LyA n []:=⟨rfl,Nat.zero_le _⟩
theorem LyA.app {n:Nat}:∀ {a b:List PyData},LyA n a→LyA n b→LyA n (a ++ b)
  | [],b,_,hb=>hb
  | x :: a,b,ha,hb=>by
    obtain ⟨h1,h2⟩:=ha
    simp only [PyData.canLayAll0,Bool.and_eq_true] at h1
    simp only [PyData.depthAll] at h2
    have ih:=LyA.app (n:=n) (a:=a) (b:=b) ⟨h1.2,by lia⟩ hb
    refine ⟨?_,?_⟩
    · simp only [List.cons_append,PyData.canLayAll0,Bool.and_eq_true];exact ⟨h1.1,ih.1⟩
    · simp only [List.cons_append,PyData.depthAll];have:=ih.2;lia
theorem LyA.mono {n m:Nat} {v:List PyData} (h:LyA n v) (hm:n ≤ m):LyA m v:=⟨h.1,Nat.le_trans h.2 hm⟩
theorem LyA.one {n:Nat} {p:PyData} (h1:p.canLay0 = true) (h2:p.depth ≤ n):LyA n [p]:=⟨by simp [PyData.canLayAll0,h1],by simpa [PyData.depthAll] using h2⟩
theorem LyA.head {n:Nat} {p:PyData} {l:List PyData} (h:LyA n (p :: l)):p.canLay0 = true∧p.depth ≤ n∧LyA n l:=by
  obtain ⟨h1,h2⟩:=h
  simp only [PyData.canLayAll0,Bool.and_eq_true] at h1
  simp only [PyData.depthAll] at h2
  exact ⟨h1.1,by lia,h1.2,by lia⟩
theorem LyA.tup {n:Nat} {l:List PyData} (h:LyA n l):(PyData.tuple l).canLay0 = true∧(PyData.tuple l).depth ≤ n + 1:=⟨by simp only [PyData.canLay0];exact h.1,by simp only [PyData.depth];have:=h.2;lia⟩
theorem LyA.cons {n:Nat} {p:PyData} {l:List PyData} (h1:p.canLay0 = true) (h2:p.depth ≤ n) (h:LyA n l):LyA n (p :: l):=LyA.app (a:=[p]) (.one h1 h2) h
theorem ly_Sx {n:Nat} {s:List Nat} (h:okc s):LyA n [Sx s]:=.one (lay_Sx h) (by show (0:Nat) ≤ n;lia)
theorem ly_text {x:List Nat} (h:okc x):(textD x).canLay0 = true∧(textD x).depth ≤ 1:=(LyA.app (n:=0) (a:=[Sx [116,101,120,116]]) (ly_Sx (fun c hc=>by simp at hc;lia)) (ly_Sx h)).tup
theorem ly_cmd {x:List Nat} (h:okc x):(cmdD x).canLay0 = true∧(cmdD x).depth ≤ 1:=(LyA.app (n:=0) (a:=[Sx [99,109,100]]) (ly_Sx (fun c hc=>by simp at hc;lia)) (ly_Sx h)).tup
theorem ly_var {n:Nat} {x:List Nat} {i:PyData} (h:okc x) (h1:i.canLay0 = true) (h2:i.depth ≤ n):(varD x i).canLay0 = true∧(varD x i).depth ≤ n + 1 :=
  (LyA.app (n:=n) (a:=[Sx [118,97,114]]) (ly_Sx (fun c hc=>by simp at hc;lia)) (LyA.app (a:=[Sx x]) (ly_Sx h) (.one h1 h2))).tup
theorem ly_word {n:Nat} {e:Bool} {ps:List PyData} (h:LyA n ps):(wordD e ps).canLay0 = true∧(wordD e ps).depth ≤ n + 2 :=
  (LyA.app (n:=n + 1) (a:=[.bool e]) (.one rfl (by show (0:Nat) ≤ _;lia)) (.one h.tup.1 h.tup.2)).tup
theorem ly_fin {n:Nat} {run:List Nat} {acc:List PyData} (hr:okc run) (h:LyA n acc) (hn:1 ≤ n):LyA n (fin run acc):=by
  unfold fin
  split
  · exact h
  · exact h.app (.one (ly_text hr).1 (Nat.le_trans (ly_text hr).2 hn))
theorem btw_ok {b s:List Nat} (h:okc b):okc (btw b s):=okc_take h _
noncomputable def Lyd (n:Nat):Call→Rs→Prop
  | .pts _ s run acc,.ok v _ _=>okc s→okc run→LyA (n + 1) acc→LyA (n + 1) v
  | .var s,.ok v _ _=>okc s→LyA (n + 2) v
  | .word _ s,.ok v _ _=>okc s→LyA (n + 3) v
  | .ws _ s acc,.ok v _ _=>okc s→LyA (n + 3) acc→LyA (n + 3) v
  | _,_=>True
theorem P.ly {n:Nat} {k:Call} {R:Rs} (h:P n k R):Lyd n k R:=by
  have c1:∀ {x:Nat} {s:List Nat},okc (x :: s)→okc s:=fun h=>okc_suf h (List.suffix_cons ..)
  induction h with
  | p_nil=>exact fun hs hr ha=>ly_fin hr ha (by lia)
  | p_stop _=>exact fun hs hr ha=>ly_fin hr ha (by lia)
  | p_varT h1 h2 i1 i2=>rename_i R;cases R with
    | ok v m r=>exact fun hs hr ha=>i2 (okc_suf (c1 hs) h1.suf.2) (okc_app hr (okc_cons (by lia) okc_nil)) ha
    | err t r=>trivial
  | p_varV h1 h2 i1 i2=>rename_i R;cases R with
    | ok v m r=>exact fun hs hr ha=>i2 (okc_suf (c1 hs) h1.suf.2) okc_nil ((ly_fin hr ha (by lia)).app (i1 (c1 hs)))
    | err t r=>trivial
  | p_varE _ _=>trivial
  | p_br h1 h2 i1 i2=>rename_i R;cases R with
    | ok v m r=>exact fun hs hr ha=>i2 (okc_suf (c1 hs) (h1.suf.2.trans (skipCmd_suf _ _))) okc_nil ((ly_fin hr ha (by lia)).app (.one (ly_cmd (btw_ok (c1 hs))).1 (Nat.le_trans (ly_cmd (btw_ok (c1 hs))).2 (by lia))))
    | err t r=>trivial
  | p_brE _ _=>trivial
  | p_brk=>exact fun hs hr ha=>ly_fin hr ha (by lia)
  | p_bs hK h1 i1=>rename_i R;cases R with
    | ok v m r=>exact fun hs hr ha=>i1 (okc_suf (c1 hs) (bs_suf _)) (okc_app hr (okc_bs (c1 hs))) ha
    | err t r=>trivial
  | p_run hp h1 i1=>rename_i R;cases R with
    | ok v m r=>exact fun hs hr ha=>i1 (okc_suf hs (List.dropWhile_suffix _)) (okc_app hr (fun c hc=>hs c (mem_tw hc))) ha
    | err t r=>trivial
  | @v_brace n nm r hn =>
    intro hs
    have:=ly_var (n:=0) (x:=nm) (i:=.none) (fun c hc=>hs c (by simp [hc])) rfl (Nat.le_refl _)
    exact .one this.1 (Nat.le_trans this.2 (by lia))
  | v_braceE _=>trivial
  | @v_ix n s u ps m r h123 hu h1 i1 =>
    intro hs
    have hus:u <:+ s:=(List.suffix_cons 40 u).trans (hu ▸ nameR_suf false s)
    have hp:=i1 (okc_suf hs hus) okc_nil (LyA.nil _)
    have:=ly_var (n:=n + 2) (x:=btw s (40 :: u)) (btw_ok hs) hp.tup.1 hp.tup.2
    exact .one this.1 this.2
  | v_ixM _ _ _ _=>trivial
  | v_ixE _ _ _ _=>trivial
  | v_none _ _ _ =>
    intro hs
    exact .one (ly_text (okc_cons (by lia) okc_nil)).1 (Nat.le_trans (ly_text (okc_cons (by lia) okc_nil)).2 (by lia))
  | @v_name n s u _ _ _ _ =>
    intro hs
    have:=ly_var (n:=0) (x:=btw s u) (i:=.none) (btw_ok hs) rfl (Nat.le_refl _)
    exact .one this.1 (Nat.le_trans this.2 (by lia))
  | @w_brace n b s v x r hb hx =>
    intro hs
    have hv:okc v:=okc_suf (okc_suf hs (body_suf s)) (by rw [hb];exact List.suffix_cons ..)
    have:=ly_word (e:=isExp s) (ly_fin (n:=1) (okc_brc _ _ _ _ _ _ okc_nil hv hx) (LyA.nil _) (Nat.le_refl _))
    exact .one this.1 (Nat.le_trans this.2 (by lia))
  | w_braceE _ _=>trivial
  | @w_quote n b s v ps m r hb h1 i1 =>
    intro hs
    have hv:okc v:=okc_suf (okc_suf hs (body_suf s)) (by rw [hb];exact List.suffix_cons ..)
    have:=ly_word (e:=isExp s) (i1 hv okc_nil (LyA.nil _))
    exact .one this.1 (Nat.le_trans this.2 (by lia))
  | w_quoteM _ _ _=>trivial
  | w_quoteE _ _ _=>trivial
  | @w_bare n b s ps m r h123 h34 h1 i1 =>
    intro hs
    have:=ly_word (e:=isExp s) (i1 (okc_suf hs (body_suf s)) okc_nil (LyA.nil _))
    exact .one this.1 (Nat.le_trans this.2 (by lia))
  | w_bareE _ _ _ _=>trivial
  | s_err _ _=>trivial
  | s_end h1 hg i1=>exact fun hs ha=>ha.app ((i1 hs).mono (by lia))
  | s_nl h1 hg hc i1=>exact fun hs ha=>ha.app ((i1 hs).mono (by lia))
  | s_cl h1 hg i1=>exact fun hs ha=>ha.app ((i1 hs).mono (by lia))
  | s_x _ _ _ _ _ _ _=>trivial
  | @s_next n b s acc w m e c r R h1 hg hlt h10 h59 h93 h2 i1 i2=>cases R with
    | ok v m' r' =>
      intro hs ha
      have hes:=h1.suf.1.trans h1.suf.2
      simp only [Rs.rest,Call.tx] at hes
      exact i2 (okc_suf hs ((hg ▸ skipGaps_suf e).trans hes)) (ha.app ((i1 hs).mono (by lia)))
    | err t r=>trivial
  | b_end=>trivial
  | b_cl=>trivial
  | b_cmd _ _ _ _ _=>trivial
  | b_err _ _ _=>trivial
end Mine
end
section
set_option tactic.hygienic false
open PySem PySem.W PyProof.Rows PySem.Spec PySem.Calls PySem.Builtin PySem.Builtin.Str
namespace Mine
@[simp] theorem tryO_some_ret (σ:Store) (d:PyData) (fx:Store→Option PyData):tryO (some (σ,.ret d)) fx = some (σ,.ret d):=rfl
theorem s_tryR {f:Store→Option Out} {fx:Store→Option PyData} {σ σ₁:Store} {d:PyData} (h:f σ = some (σ₁,.ret d)):sTry f fx σ = some (σ₁,.ret d):=by show tryO _ _ = _;rw [h];rfl
theorem s_tryX {f:Store→Option Out} {fx:Store→Option PyData} {σ σ₁:Store} {τ:Str} {d:PyData} (h:f σ = some (σ₁,.exc τ)) (k:fx σ₁ = some d):sTry f fx σ = some (σ₁,.ret (.tuple [d,faultD τ])):=by show tryO _ _ = _;rw [h];show obind _ _ = _;rw [k];rfl
noncomputable def cloV (t s:List Nat):Rs→PyData
  | .ok _ _ r=>.tuple [.tuple [Sx (btw s (93 :: r)),.int (pos t r)],.none]
  | .err τ _=>.tuple [.tuple [],faultD τ]
theorem nopts {k:Call} (h:∀ K s run acc,k ≠ .pts K s run acc):∀ K s run acc,k = .pts K s run acc→lfs acc = true:=fun K s run acc e=>absurd e (h K s run acc)
theorem closed_ok {n:Nat} {t s:List Nat} {R:Rs} (h:P n (.brl (skipCmd false s)) R) (ht:Small t) (hs:91 :: s <:+ t):Φ (n + 10) "_law_closed" [Sx t,.int (pos t (91 :: s))] = ret' (cloV t s R):=by
  have hb:=fn_of_brl (sem h trivial) ht hs
  rw [phi_law_closed (by lia)]
  cases R with
  | ok v m r=>exact m_ret (c_out (s_tryR (σ₁:=⟨[some (Sx t),some (.int (pos t (91 :: s)))],none⟩) (c_ret (v_tup (v_aCons (v_call (v_aCons rfl (v_aCons rfl rfl)) hb) rfl) rfl) rfl)))
  | err τ r=>exact m_ret (c_out (s_tryX (c_retE (f:=dTup (aCons (dCall (Φ (n + 9)) "brackets" (aCons (getV 0) (aCons (getV 1) aNil))) (aCons (dK .none) aNil))) (by show bnd (bnd (bnd _ _) _) _ = _;exact congrArg (fun x=>bnd (bnd x _) _) hb) rfl) rfl))
noncomputable def cmdV (t:List Nat) (c:Cmd):PyData:=.tuple [.tuple c.1,.int (pos t c.2.1),.int (pos t c.2.2.1),.int (pos t c.2.2.2)]
noncomputable def faultO:Option Str→PyData
  | none=>.none
  | some τ=>faultD τ
theorem Cs.len {n:Nat} {b:Bool} {s:List Nat} {L:List Cmd} {f:Option Str} (h:Cs n b s L f):L.length ≤ s.length:=by
  induction h with
  | done _=>exact Nat.zero_le _
  | err _ _=>exact Nat.zero_le _
  | @step s v m r L f hw h1 _ ih =>
    have h2:=ws_lt h1 rfl rfl hw
    have h3:=(skipCmd_suf false s).length_le
    have h4:=h1.suf.1.length_le
    simp only [Rs.rest,Rs.mid] at h4
    simp only [List.length_cons]
    have h3':=Nat.lt_of_lt_of_le h2 h3
    lia
noncomputable def flwO:Option Str→Flw
  | none=>.nxt
  | some τ=>.exc τ
noncomputable def rst (t:List Nat) (a:Int) (b:Bool) (x:Option PyData) (F:List PyData):Store:=⟨[some (Sx t),some (.int a),some (.bool b),none,x],some (3,F)⟩
theorem Cs.at {n:Nat} {b:Bool} {s:List Nat} {L:List Cmd} {f:Option Str} (h:Cs n b s L f) {t:List Nat} (ht:Small t) (hs:s <:+ t) :
    (L = []∧f = none∧Φ (n + 9) "command_at" [Sx t,.int (pos t s),.bool b] = ret' .none) ∨ (∃ τ,L = []∧f = some τ∧Φ (n + 9) "command_at" [Sx t,.int (pos t s),.bool b] = some (.error τ)) ∨
    ∃ c L',L = c :: L'∧Cs n b c.2.2.2 L' f∧c.2.2.2 <:+ s∧lf (cmdV t c) = true∧Φ (n + 9) "command_at" [Sx t,.int (pos t s),.bool b] = ret' (cmdV t c):=by
  cases h with
  | done h=>exact .inl ⟨rfl,rfl,fn_none (by lia) ht hs h⟩
  | err hw h1=>exact .inr (.inl ⟨_,rfl,rfl,fn_of_ws (sem h1 rfl) ht hs hw⟩)
  | @step s v m r L f hw h1 h2 =>
    have hl:lfs v = true:=h1.lfs rfl
    refine .inr (.inr ⟨_,_,rfl,h2,(h1.suf.1.trans h1.suf.2).trans (skipCmd_suf false s),?_,fn_of_ws (sem h1 rfl) ht hs hw⟩)
    simp [cmdV,hl]
theorem cmdV_isn (t:List Nat) (c:Cmd):isnD (cmdV t c) .none = some true:=rfl
theorem cmdV_3 (t:List Nat) (c:Cmd):itemD (cmdV t c) (.int 3) = some (.int (pos t c.2.2.2)):=itT3 _ _ _ _
theorem rd_loop {n:Nat} {b:Bool} {t:List Nat} (ht:Small t) (a:Int):∀ (L:List Cmd) (s:List Nat) (f:Option Str) (F:List PyData) (N:Nat) (x:Option PyData),Cs n b s L f→s <:+ t→L.length < N→F.length + L.length ≤ t.length→lfs F = true →
    ∃ y,ebind (Φ (n + 9) "command_at" [Sx t,.int (pos t s),.bool b]) (rst t a b x F) (fun d=>loopN lc_law_read_1 (lb_law_read_1 (Φ (n + 9))) N (rst t a b (some d) F)) =
      some (rst t a b y (F ++ L.map (cmdV t)),flwO f)
   :=by
  intro L
  induction L with
  | nil =>
    intro s f F N x h hs hN hF hl
    obtain ⟨N,rfl⟩:∃ k,N = k + 1:=⟨N - 1,by lia⟩
    rcases h.at ht hs with ⟨-,rfl,e⟩ | ⟨τ,-,rfl,e⟩ | ⟨c,L',q,_⟩
    · refine ⟨some .none,?_⟩
      have h1:tCmp isnD (getV 4) (dK .none) (frz (rst t a b (some .none) F)) = ret' false:=rfl
      rw [e,ebind_ret,loop_end (show lc_law_read_1 _ = _ from t_andF h1),List.map_nil,List.append_nil]
      rfl
    · exact ⟨x,by rw [e,List.map_nil,List.append_nil];rfl⟩
    · cases q
  | cons c L' ih =>
    intro s f F N x h hs hN hF hl
    obtain ⟨N,rfl⟩:∃ k,N = k + 1:=⟨N - 1,by lia⟩
    rcases h.at ht hs with ⟨q,_⟩ | ⟨τ,q,_⟩ | ⟨_,_,q,h2,hcs,hlf,e⟩
    · cases q
    · cases q
    · cases q
      rw [e,ebind_ret]
      have hFl:F.length ≤ 1000000:=by have:=ht;unfold Small at this;lia
      have hl1:lenD (.list F) = some (.int F.length):=by unfold lenD;dsimp only;rw [if_pos hFl]
      have hl2:=lenD_mk ht
      simp only [List.length_cons] at hN hF
      have hle:((F.length:Nat):Int) ≤ (t.length:Nat):=by lia
      have hc1:lc_law_read_1 (rst t a b (some (cmdV t c)) F) = ret' true:=by
        have h1:tCmp isnD (getV 4) (dK .none) (frz (rst t a b (some (cmdV t c)) F)) = ret' true:=rfl
        have h2:tCmp (ordD fun a b=>decide (a ≤ b)) (dOn lenD (getV 3)) (dOn lenD (getV 0)) (frz (rst t a b (some (cmdV t c)) F)) = ret' true:=t_cmp (v_on (a:=.list F) rfl hl1) (v_on (a:=Sx t) rfl hl2) (ord_of (decide_eq_true hle))
        have h3:=t_andT h1 (t_andT (c':=tAnd0) h2 rfl)
        exact h3
      have hi3:=cmdV_3 t c
      have hrt:=hcs.trans hs
      obtain ⟨y,ih⟩:=ih c.2.2.2 f (F ++ [cmdV t c]) N (some (cmdV t c)) h2 hrt (by lia) (by simp;lia) (by rw [lfs_app,hl];simpa using hlf)
      refine ⟨y,?_⟩
      have hfin:F ++ [cmdV t c] ++ L'.map (cmdV t) = F ++ (c :: L').map (cmdV t):=by simp
      rw [hfin] at ih
      rw [← ih]
      rcases h2.at ht hrt with ⟨_,_,e2⟩ | ⟨τ,_,_,e2⟩ | ⟨c2,L2,_,_,_,hlf2,e2⟩
      · rw [e2,ebind_ret]
        exact loop_nxt hc1 (by (delta lb_law_read_1 rst;simp! []))
      · rw [e2]
        exact loop_exc hc1 (by (delta lb_law_read_1 rst;simp! []))
      · rw [e2,ebind_ret]
        exact loop_nxt hc1 (by (delta lb_law_read_1 rst;simp! []))
theorem read_ok {n:Nat} {b:Bool} {s t:List Nat} {L:List Cmd} {f:Option Str} (h:Cs n b s L f) (ht:Small t) (hs:s <:+ t):Φ (n + 10) "_law_read" [Sx t,.int (pos t s),.bool b] = ret' (.tuple [.list (L.map (cmdV t)),faultO f]):=by
  rw [phi_law_read (by lia)]
  have hl:=h.len
  have hsl:=suf_len hs
  obtain ⟨y,hy⟩:=rd_loop ht (pos t s) L s f [] bigN none h hs (by unfold Small at ht;unfold bigN;lia) (by simp;lia) rfl
  rw [List.nil_append] at hy
  have key:sbind (sAsg 4 (dCall (Φ (n + 9)) "command_at" (aCons (getV 0) (aCons (getV 1) (aCons (getV 2) aNil)))) (rst t (pos t s) b none [])) (sWhile lc_law_read_1 (lb_law_read_1 (Φ (n + 9)))) =
      some (rst t (pos t s) b y (L.map (cmdV t)),flwO f):=by
    rw [← hy]
    rcases h.at ht hs with ⟨_,_,e⟩ | ⟨τ,_,_,e⟩ | ⟨c,L',_,_,_,hlf,e⟩
    · rw [e];show sCons _ _ _ = _;delta rst;simp! []
    · rw [e];show sCons _ _ _ = some (_,Flw.exc τ);delta rst;simp! []
    · rw [e];show sCons _ _ _ = _;delta rst;simp! []
  have e0:sOwn 3 (nLst aNil) ⟨[some (Sx t),some (.int (pos t s)),some (.bool b),none,none],none⟩ = some (rst t (pos t s) b none [],.nxt):=rfl
  show (sbind (sOwn 3 (nLst aNil) _) (sCons (sTry (sCons (sAsg 4 _) (sCons (sWhile _ _) sNil)) (qName 3)) (sCons (sRet _) sNil))).map outR = _
  rw [e0,sbind_nxt]
  have e1:sCons (sAsg 4 (dCall (Φ (n + 9)) "command_at" (aCons (getV 0) (aCons (getV 1) (aCons (getV 2) aNil))))) (sCons (sWhile lc_law_read_1 (lb_law_read_1 (Φ (n + 9)))) sNil) (rst t (pos t s) b none []) =
      some (rst t (pos t s) b y (L.map (cmdV t)),flwO f):=by
    have:∀ o:Option Out,sbind o (sCons (sWhile lc_law_read_1 (lb_law_read_1 (Φ (n + 9)))) sNil) = sbind (sbind o (sWhile lc_law_read_1 (lb_law_read_1 (Φ (n + 9))))) sNil:=fun o=>by
      cases o with
      | none=>rfl
      | some p=>obtain ⟨σ,g⟩:=p;cases g <;> rfl
    show sbind _ (sCons _ sNil) = _
    rw [this,key]
    cases f <;> rfl
  show (sbind (tryO (sCons _ _ _) (qName 3)) _).map outR = _
  rw [e1]
  have hLl:(L.map (cmdV t)).length ≤ 1000000:=by rw [List.length_map];unfold Small at ht;lia
  cases f with
  | none=>rfl
  | some τ=>rfl
end Mine
end
section
set_option tactic.hygienic false
open PySem PySem.W PyProof.Rows PySem.Spec PySem.Calls PySem.Builtin PySem.Builtin.Str
namespace Mine
inductive IsErr:Str→Prop
  | br:IsErr mBr
  | brace:IsErr mBrace
  | var:IsErr mVar
  | paren:IsErr mParen
  | quote:IsErr mQuote
  | xq:IsErr xQuote
  | xb:IsErr xBrace
noncomputable def Rs.isE:Rs→Prop
  | .err τ _=>IsErr τ
  | .ok _ _ _=>True
theorem P.isE {n:Nat} {k:Call} {R:Rs} (h:P n k R):R.isE:=by
  induction h with
  | v_braceE _=>exact .var
  | v_ixM _ _ _ _=>exact .paren
  | w_braceE _ _=>exact .brace
  | w_quoteM _ _ _=>exact .quote
  | s_x _ _ _ _ _ _ _=>show IsErr (extraT _);unfold extraT;split;exact .xq;exact .xb
  | b_end=>exact .br
  | p_varT _ _ _ i=>exact i
  | p_varV _ _ _ i=>exact i
  | p_varE _ i=>exact i
  | p_br _ _ _ i=>exact i
  | p_brE _ i=>exact i
  | p_bs _ _ i=>exact i
  | p_run _ _ i=>exact i
  | v_ixE _ _ _ i=>exact i
  | w_quoteE _ _ i=>exact i
  | w_bareE _ _ _ i=>exact i
  | s_err _ i=>exact i
  | s_next _ _ _ _ _ _ _ _ i=>exact i
  | b_cmd _ _ _ _ i=>exact i
  | b_err _ _ i=>exact i
  | _=>trivial
theorem P.isErr {n:Nat} {k:Call} {R:Rs} (h:P n k R):∀ {τ r},R = .err τ r→IsErr τ:=by
  rintro τ r rfl
  exact h.isE
noncomputable def ms7:List Nat:=[109,105,115,115,105,110,103]
noncomputable def codes (τ:Str):List Nat:=τ.cps.toList
theorem str_codes (τ:Str):PyData.str τ = Sx (codes τ):=by simp [Sx,mk,codes]
theorem err_small {τ:Str} (h:IsErr τ):Small (codes τ)∧okc (codes τ):=by
  cases h <;> exact ⟨by unfold Small;decide,by unfold okc;decide⟩
theorem isX_iff {τ:Str} (h:IsErr τ):isX τ ↔ (codes τ).take 7 ≠ ms7:=by
  cases h <;> (unfold isX;decide)
theorem cut7 {t:List Nat} (ht:Small t):cutD (Sx t) none (some 7) = some (Sx (t.take 7)):=by
  unfold cutD Sx
  unfold Small at ht
  dsimp only
  rw [if_pos (by rw [mk_len];lia),slice_upto t (by lia)]
  rfl
theorem cutTo {t:List Nat} (ht:Small t) {b:Int} (hb:0 ≤ b):cutD (Sx t) none (some b) = some (Sx (t.take b.toNat)):=by
  unfold cutD Sx
  unfold Small at ht
  dsimp only
  rw [if_pos (by rw [mk_len];lia),slice_upto t hb]
theorem fault1 (τ:Str):itemD (faultD τ) (.int 1) = some (Sx (codes τ)):=by
  rw [← str_codes];exact itT1 _ _ _
theorem item_at' {t:List Nat} {i:Nat} (hi:i < t.length) (ht:Small t):itemD (Sx t) (.int i) = some (Sx [t[i]]):=by
  have hs:t.drop i <:+ t:=List.drop_suffix i t
  have e:t.drop i = t[i] :: t.drop (i + 1):=List.drop_eq_getElem_cons hi
  have:=item_at (t:=t) (s:=t.drop (i + 1)) (c:=t[i]) (by rw [← e];exact hs) ht
  have hp:pos t (t[i] :: t.drop (i + 1)) = i:=by rw [← e];unfold pos;simp;lia
  rw [hp] at this
  exact this
noncomputable def NoneE (n:Nat) (t:List Nat) (z:Nat) (w:Bool):Prop:=∀ i,i < z→t[i]? = some 93→∃ τ r,P n (.brl (skipCmd false (t.take (i + 1)))) (.err τ r)∧(w = false→¬ isX τ)
noncomputable def nst (t:List Nat) (z:Int) (w:Bool) (x y u:Option PyData):Store:=⟨[some (Sx t),some (.int z),some (.bool w),x,y,u],none⟩
theorem nb_no {Ψ:Oracle} {t:List Nat} {z:Int} {w:Bool} {i:Int} {c:Nat} (e1:itemD (Sx t) (.int i) = some (Sx [c])) (hc:(c == 93) = false) (y u:Option PyData):lb_law_none_earlier_1 Ψ (nst t z w (some (.int i)) y u) = some (nst t z w (some (.int i)) y u,.nxt):=by
  have h1:tCmp eqD (dIdx (getV 0) (getV 3)) (dK (.str "]")) (nst t z w (some (.int i)) y u) = ret' false:=by delta nst;simp! only [hc]
  simp only [lb_law_none_earlier_1,sCons,sIte,h1,ebind_ret]
  rfl
noncomputable def nT:Store→Res Bool:=(tOr (tCmp isD (getV 5) (dK .none)) (tOr (tAnd (tCmp neD (dCut (dIdx (getV 5) (dK (.int 1))) pNo (pOf (dK (.int 7)))) (dK (.str "missing"))) (tAnd (tNot (tPlain (getV 2))) tAnd0)) tOr0))
theorem nT_ok {t:List Nat} {z:Int} {w:Bool} {x y:Option PyData} {τ:Str} (hE:IsErr τ) (hx:w = false→¬ isX τ):nT (nst t z w x y (some (faultD τ))) = ret' false:=by
  have h1:tCmp isD (getV 5) (dK .none) (nst t z w x y (some (faultD τ))) = ret' false:=rfl
  have f1:=fault1 τ
  have f2:=cut7 (err_small hE).1
  have h2:tCmp neD (dCut (dIdx (getV 5) (dK (.int 1))) pNo (pOf (dK (.int 7)))) (dK (.str "missing")) (nst t z w x y (some (faultD τ))) = ret' (!((codes τ).take 7 == ms7)):=by
    delta nst;simp! only [ms7]
  have h3:tPlain (getV 2) (nst t z w x y (some (faultD τ))) = ret' w:=rfl
  simp only [nT,tOr,tAnd,tNot,tAnd0,tOr0,h1,h2,h3,bnd_ret]
  cases w with
  | true=>cases ((codes τ).take 7 == ms7) <;> rfl
  | false =>
    have hm:((codes τ).take 7 == ms7) = true:=by
      have:=hx rfl
      rw [isX_iff hE] at this
      simpa using this
    rw [hm];rfl
theorem nb_yes {Ψ:Oracle} {t:List Nat} {z:Int} {w:Bool} {i:Int} {p:List Nat} {τ:Str} (e1:itemD (Sx t) (.int i) = some (Sx [93])) (hE:IsErr τ) (hx:w = false→¬ isX τ) (e2:cutD (Sx t) none (some (i + 1)) = some (Sx p)) (ea:addD (Sx [91]) (Sx p) = some (Sx (91 :: p))) (hcl:Ψ "_law_closed" [Sx (91 :: p),.int 0] = ret' (.tuple [.tuple [],faultD τ])) (y u:Option PyData) :
    lb_law_none_earlier_1 Ψ (nst t z w (some (.int i)) y u) = some (nst t z w (some (.int i)) (some (.tuple [])) (some (faultD τ)),.nxt):=by
  have h1:tCmp eqD (dIdx (getV 0) (getV 3)) (dK (.str "]")) (nst t z w (some (.int i)) y u) = ret' true:=by delta nst;simp! only []
  have h2:sUnp [4,5] (dCall Ψ "_law_closed" (aCons (dBin addD (dK (.str "[")) (dCut (getV 0) pNo (pOf (dBin addD (getV 3) (dK (.int 1)))))) (aCons (dK (.int 0)) aNil))) (nst t z w (some (.int i)) y u) = some (nst t z w (some (.int i)) (some (.tuple [])) (some (faultD τ)),.nxt):=by
    apply c_one;delta nst;simp! []
  have h3:=nT_ok (t:=t) (z:=z) (x:=some (.int i)) (y:=some (.tuple [])) hE hx
  have e:lb_law_none_earlier_1 Ψ = sCons (sIte (tCmp eqD (dIdx (getV 0) (getV 3)) (dK (.str "]"))) (sCons (sUnp [4,5] (dCall Ψ "_law_closed" (aCons (dBin addD (dK (.str "[")) (dCut (getV 0) pNo (pOf (dBin addD (getV 3) (dK (.int 1)))))) (aCons (dK (.int 0)) aNil)))) (sCons (sIte nT (sCons (sRet (dK (.bool false))) sNil) sNil) sNil)) sNil) sNil:=rfl
  rw [e]
  show sbind (ebind (tCmp eqD _ _ _) _ _) _ = _
  rw [h1,ebind_ret,if_pos rfl]
  show sbind (sbind (sUnp _ _ _) _) _ = _
  rw [h2,sbind_nxt]
  show sbind (sbind (ebind (nT _) _ _) _) _ = _
  rw [h3]
  rfl
theorem ne_body {n:Nat} {t:List Nat} {z:Nat} {w:Bool} (ht:t.length ≤ 900) {i:Nat} (hi:i < t.length) (h:t[i]? = some 93→∃ τ r,P n (.brl (skipCmd false (t.take (i + 1)))) (.err τ r)∧(w = false→¬ isX τ)) (y u:Option PyData) :
    ∃ y' u',lb_law_none_earlier_1 (Φ (n + 10)) (nst t z w (some (.int i)) y u) = some (nst t z w (some (.int i)) y' u',.nxt):=by
  have hts:Small t:=by unfold Small;lia
  have e1:=item_at' hi hts
  by_cases hc:t[i] = 93
  · obtain ⟨τ,r,hp,hx⟩:=h (by rw [List.getElem?_eq_getElem hi,hc])
    have hcl:=closed_ok hp (t:=91 :: t.take (i + 1)) (by unfold Small;simp;lia) (List.suffix_refl _)
    rw [pos_self] at hcl
    rw [hc] at e1
    have e2:=cutTo hts (b:=(i:Int) + 1) (by lia)
    have e3:((i:Int) + 1).toNat = i + 1:=by lia
    rw [e3] at e2
    have ea:addD (Sx [91]) (Sx (t.take (i + 1))) = some (Sx (91 :: t.take (i + 1))):=addD_mk (by simp;lia)
    exact ⟨_,_,nb_yes e1 (hp.isErr rfl) hx e2 ea hcl y u⟩
  · have hc':(t[i] == 93) = false:=by simpa using hc
    exact ⟨y,u,nb_no e1 hc' y u⟩
theorem ne_loop {n:Nat} {t:List Nat} {z:Nat} {w:Bool} (ht:t.length ≤ 900) (hz:z ≤ t.length) (h:NoneE n t z w):∀ (k i:Nat) (x y u:Option PyData),i + k = z→∃ x' y' u',forN 3 (lb_law_none_earlier_1 (Φ (n + 10))) k i (nst t z w x y u) = some (nst t z w x' y' u',.nxt)
  | 0,i,x,y,u,hk=>⟨x,y,u,rfl⟩
  | k + 1,i,x,y,u,hk=>by
    obtain ⟨y1,u1,hb⟩:=ne_body (z:=z) (w:=w) ht (i:=i) (by lia) (h i (by lia)) y u
    obtain ⟨x',y',u',ih⟩:=ne_loop ht hz h k (i + 1) (some (.int i)) y1 u1 (by lia)
    refine ⟨x',y',u',?_⟩
    show obind (setV 3 (.int i) (nst t z w x y u)) _ = _
    have e:setV 3 (.int i) (nst t z w x y u) = some (nst t z w (some (.int i)) y u):=rfl
    rw [e,obind_some',hb]
    exact ih
theorem none_ok {n:Nat} {t:List Nat} {z:Nat} {w:Bool} (ht:t.length ≤ 900) (hz:z ≤ t.length) (h:NoneE n t z w):Φ (n + 11) "_law_none_earlier" [Sx t,.int z,.bool w] = ret' (.bool true):=by
  rw [phi_law_none_earlier (by lia)]
  obtain ⟨x',y',u',hl⟩:=ne_loop ht hz h z 0 none none none (by lia)
  have e:forD 3 (lb_law_none_earlier_1 (Φ (n + 10))) (nst t z w none none none) (.int z) = some (nst t z w x' y' u',.nxt):=by
    show (if 0 ≤ (z:Int)∧(z:Int) ≤ 1000000 then _ else none) = _
    rw [if_pos ⟨by lia,by lia⟩]
    exact hl
  show (sbind (ebind (getV 1 _) _ fun d=>forD 3 _ _ d) _).map outR = _
  have e2:getV 1 (nst t z w none none none) = ret' (.int z):=rfl
  show (sbind (ebind (getV 1 (nst t z w none none none)) (nst t z w none none none) fun d=>forD 3 (lb_law_none_earlier_1 (Φ (n + 10))) (nst t z w none none none) d) _).map outR = _
  rw [e2,ebind_ret,e]
  rfl
end Mine
end
section
set_option tactic.hygienic false
open PySem PySem.W PyProof.Rows PySem.Spec PySem.Calls PySem.Builtin PySem.Builtin.Str
namespace Mine
noncomputable def Nst:Call→Prop
  | .ws b _ _=>b = true
  | .word b _=>b = true
  | .pts K _ _ _=>K ≠ .bare false
  | _=>True
noncomputable def Rs.xr:Rs→Prop
  | .err τ r=>isX τ→∃ c u,r = c :: u∧c ≠ 93
  | .ok _ _ _=>True
theorem x_r {n:Nat} {k:Call} {R:Rs} (h:P n k R):Nst k→R.xr:=by
  induction h with
  | v_braceE _=>exact fun _ hx=>absurd hx (not_isX xq_ne.2.2.2.2.1 xq_ne.2.2.2.2.2.1)
  | v_ixM _ _ _ _=>exact fun _ hx=>absurd hx (not_isX xq_ne.2.2.2.2.2.2.1 xq_ne.2.2.2.2.2.2.2.1)
  | w_braceE _ _=>exact fun _ hx=>absurd hx (not_isX xq_ne.2.2.1 xq_ne.2.2.2.1)
  | w_quoteM _ _ _=>exact fun _ hx=>absurd hx (not_isX xq_ne.2.2.2.2.2.2.2.2.1 xq_ne.2.2.2.2.2.2.2.2.2)
  | s_x _ hec _ _ _ h93 _=>exact fun hk hx=>⟨_,_,hec,h93 hk⟩
  | b_end=>exact fun _ hx=>absurd hx (not_isX xq_ne.1 xq_ne.2.1)
  | p_varT _ _ _ i=>exact i
  | p_varV _ _ _ i=>exact i
  | p_varE _ i=>exact fun _=>i trivial
  | p_br _ _ _ i=>exact i
  | p_brE _ i=>exact fun _=>i trivial
  | p_bs _ _ i=>exact i
  | p_run _ _ i=>exact i
  | v_ixE _ _ _ i=>exact fun _=>i (by intro q;cases q)
  | w_quoteE _ _ i=>exact fun _=>i (by intro q;cases q)
  | w_bareE _ _ _ i=>exact fun hk=>i (by intro q;cases q;cases hk)
  | s_err _ i=>exact i
  | s_next _ _ _ _ _ _ _ _ i=>exact i
  | b_cmd _ _ _ _ i=>exact fun _=>i trivial
  | b_err _ _ i=>exact fun _=>i rfl
  | _=>exact fun _=>trivial
theorem x_rest {n:Nat} {k:Call} {R:Rs} (h:P n k R):Nst k→∀ {τ r},R = .err τ r→isX τ→∃ c u,r = c :: u∧c ≠ 93:=by
  rintro hk τ r rfl
  exact x_r h hk
theorem brl_det {n:Nat} {s:List Nat} {R R':Rs} (hs:s.length ≤ 990) (h:P n (.brl (skipCmd false s)) R) (h':P n (.brl (skipCmd false s)) R'):cloV (91 :: s) s R = cloV (91 :: s) s R':=by
  have ht:Small (91 :: s):=by unfold Small;simp;lia
  have a:=closed_ok h ht (List.suffix_refl _)
  have b:=closed_ok h' ht (List.suffix_refl _)
  exact Except.ok.inj (Option.some.inj (a.symm.trans b))
noncomputable def ftext:PyData→Option Str
  | .tuple [_,.str x,_]=>some x
  | _=>none
theorem faultD_inj {a b:Str} (h:faultD a = faultD b):a = b:=Option.some.inj (show ftext (faultD a) = ftext (faultD b) from congrArg ftext h)
noncomputable def cfault:PyData→PyData
  | .tuple [_,x]=>x
  | _=>.none
theorem cloV_err {t s:List Nat} {a b:Str} {r r':List Nat} (h:cloV t s (.err a r) = cloV t s (.err b r')):a = b:=faultD_inj (show cfault (cloV t s (.err a r)) = cfault (cloV t s (.err b r')) from congrArg cfault h)
theorem cloV_ne {t s:List Nat} {a:Str} {r m r':List Nat} {w:List PyData} (h:cloV t s (.err a r) = cloV t s (.ok w m r')):False:=by
  have:faultD a = .none:=show cfault (cloV t s (.err a r)) = cfault (cloV t s (.ok w m r')) from congrArg cfault h
  cases this
theorem eqD_self {l:List PyData} {n:Nat} (h:LyA n l) (hn:n ≤ 1900):eqD (.tuple l) (.tuple l) = some true:=by
  have h1:=h.tup
  show (if _ then some (PyData.eqv (.tuple l) (.tuple l)) else none) = _
  rw [if_pos ⟨h1.1,h1.1,by rw [Nat.min_self];lia⟩,SeqAt.eqv_refl _ h1.1]
theorem neD_self {l:List PyData} {n:Nat} (h:LyA n l) (hn:n ≤ 1900):neD (.tuple l) (.tuple l) = some false:=by unfold neD;rw [eqD_self h hn];rfl
theorem Tw_succ (t:List Nat) (j:Nat):Tw t (j + 1) = Tw t j ++ [93]:=by simp [Tw,List.replicate_succ']
theorem Tw_len (t:List Nat) (j:Nat):(Tw t j).length = t.length + 2 + j:=by simp [Tw];lia
theorem ms_Tw (t:List Nat) (j:Nat):ms (Tw t j) = ms t:=by
  unfold ms Tw
  rw [List.countP_append]
  have:(10 :: 10 :: List.replicate j 93).countP isO = 0:=by
    rw [List.countP_eq_zero]
    intro a ha
    simp at ha
    rcases ha with rfl | ⟨_,rfl⟩ <;> decide
  rw [this];rfl
theorem bb_Tw (t:List Nat) (j:Nat):bb (Tw t j) = bb t:=by
  unfold bb Tw
  rw [List.count_append]
  have:(10 :: 10 :: List.replicate j 93).count 91 = 0:=by
    rw [List.count_eq_zero]
    intro ha
    simp at ha
  rw [this];rfl
theorem brl_all (t:List Nat) {n:Nat} (hn:ms t + 3 ≤ n):∃ R,P n (.brl (skipCmd false t)) R :=
  (total (skipCmd false t)).brl n (skipCmd_at _ _) (by have:=ms_suf (skipCmd_suf false t);lia)
theorem brl_Tw (t:List Nat) (j:Nat) {n:Nat} (hn:ms t + 3 ≤ n):∃ R,P n (.brl (skipCmd false (Tw t j))) R:=brl_all _ (by rw [ms_Tw];exact hn)
theorem more_ok {t:List Nat} {j n:Nat} (ht:t.length + j ≤ 900) {r0:List Nat} (h0:P n (.brl (skipCmd false (Tw t j))) (.err mBr r0)) {R:Rs} (h:P n (.brl (skipCmd false (Tw t (j + 1)))) R) :
    (∀ v m r,R = .ok v m r→r = [])∧∀ τ r,R = .err τ r→¬ isX τ:=by
  have hl:(Tw t j).length ≤ 990:=by rw [Tw_len];lia
  rw [Tw_succ] at h
  have noX:¬ isX mBr:=not_isX xq_ne.1 xq_ne.2.1
  have hs:∀ {τ r},R = .err τ r→isX τ→skipCmd false (Tw t j ++ [93]) = skipCmd false (Tw t j) ++ [93]:=fun {τ r} e hx=>by
    rcases skipCmd_bd false (Tw t j) with hq | hq
    · rw [hq,e] at h;cases h;exact absurd hx noX
    · exact hq
  refine ⟨fun v m r e=>?_,fun τ r e hx=>?_⟩
  · subst e
    cases r with
    | nil=>rfl
    | cons y r =>
      exfalso
      rcases skipCmd_bd false (Tw t j) with hq | hq
      · rw [hq] at h;cases h
      · rw [hq] at h
        obtain ⟨rfl,rfl⟩:=brl_cases h rfl rfl
        obtain ⟨ρ,_,_,p1⟩:=ag_ok (agree h (c:=skipCmd false (Tw t j)) (s0:=[93]) (s1:=[]) rfl (Cm.c93 _) (Cm.nil _) (show [93].length ≤ _ by simp))
        have p1:P n (.brl (skipCmd false (Tw t j))) (.ok [] (ρ ++ []) (ρ ++ [])):=by simpa [Call.put] using p1
        exact cloV_ne (brl_det hl h0 p1)
  · have hq:=hs e hx
    subst e
    rw [hq] at h
    obtain ⟨c,u,rfl,hc⟩:=x_rest h trivial rfl hx
    have hsuf:=h.suf.2
    simp only [Call.tx,Rs.mid] at hsuf
    have hlen:[93].length < (c :: u).length:=by
      cases u with
      | nil =>
        exfalso
        obtain ⟨p,hp⟩:=hsuf
        have:=congrArg List.getLast? hp
        simp at this
        exact hc this
      | cons _ _=>simp
    obtain ⟨ρ,_,_,p1⟩:=ag_err (agree h (c:=skipCmd false (Tw t j)) (s0:=[93]) (s1:=[]) rfl (Cm.c93 _) (Cm.nil _) ⟨hx,hlen⟩)
    have p1:P n (.brl (skipCmd false (Tw t j))) (.err τ (ρ ++ [])):=by simpa [Call.put] using p1
    exact noX (cloV_err (brl_det hl h0 p1) ▸ hx)
theorem br_bound {t:List Nat} {j n:Nat} {r0:List Nat} (h0:P n (.brl (skipCmd false (Tw t j))) (.err mBr r0)):j ≤ bb t:=by
  have h1:=tail_l (t:=t) (K:=j) h0 rfl (skipCmd_suf _ _)
  have h2:=skipCmd_kk (t:=t) (K:=j) (List.suffix_refl _)
  have h3:=bb_suf (skipCmd_suf false (Tw t j))
  have h4:=kk_full (K:=j) (s:=Tw t j) (by rw [Tw_len];lia)
  rw [bb_Tw] at h3
  lia
end Mine
end
section
set_option tactic.hygienic false
open PySem PySem.W PyProof.Rows PySem.Spec PySem.Calls PySem.Builtin PySem.Builtin.Str
namespace Mine
theorem cutMid {a b:Nat} {m:List Nat} (ht:Small (a :: m ++ [b])):cutD (Sx (a :: m ++ [b])) (some 1) (some (-1)) = some (Sx m):=by
  unfold cutD Sx
  unfold Small at ht
  dsimp only
  rw [if_pos (by rw [mk_len];lia)]
  have hl:(a :: m ++ [b]).length = m.length + 2:=by simp
  have e:Txt.slice (mk (a :: m ++ [b])) (some 1) (some (-1)) = Txt.slice (mk (a :: m ++ [b])) (some 1) (some ((-1:Int) + (a :: m ++ [b]).length)):=by
    unfold Txt.slice
    rw [StrLaws.sliceIdx_neg_hi (some 1) (mk (a :: m ++ [b])).length (by lia) (by rw [mk_len,hl];lia),mk_len]
  rw [e,slice_mk _ (by lia) (by rw [hl];lia)]
  have e1:((1:Int)).toNat = 1:=rfl
  have e2:((-1:Int) + (a :: m ++ [b]).length).toNat = m.length + 1:=by rw [hl];lia
  rw [e1,e2]
  simp
noncomputable def gotR (t s:List Nat):Rs→PyData
  | .ok _ _ r=>.tuple [Sx (btw s (93 :: r)),.int (pos t r)]
  | .err _ _=>.tuple []
noncomputable def fltR:Rs→PyData
  | .ok _ _ _=>.none
  | .err τ _=>faultD τ
theorem cloV_eq (t s:List Nat) (R:Rs):cloV t s R = .tuple [gotR t s R,fltR R]:=by cases R <;> rfl
noncomputable def kst (t m:List Nat) (g f:PyData) (x:Int):Store:=⟨[some (Sx t),some (Sx m),some g,some f,some (.int x)],none⟩
theorem codes_mBr:codes mBr = [109,105,115,115,105,110,103,32,99,108,111,115,101,45,98,114,97,99,107,101,116]:=by decide
theorem codes_inj {a b:Str}:codes a = codes b ↔ a = b:=by
  constructor
  · intro h
    have h1:mk (codes a) = mk (codes b):=by rw [h]
    have h2:∀ s:Str,mk (codes s) = s:=fun s=>by simp [mk,codes]
    rwa [h2,h2] at h1
  · exact fun h=>h ▸ rfl
section
variable {t m:List Nat} {g f:PyData} {x:Int}
theorem kc_ok:lc_law_closers_right_1 (kst t m g .none x) = ret' false:=by
  have h1:tCmp isnD (getV 3) (dK .none) (kst t m g .none x) = ret' false:=rfl
  exact t_andF h1
theorem kc_err {τ:Str}:lc_law_closers_right_1 (kst t m g (faultD τ) x) = ret' (decide (τ = mBr) && decide (0 < x)):=by
  have h1:tCmp isnD (getV 3) (dK .none) (kst t m g (faultD τ) x) = ret' true:=rfl
  have f1:=fault1 τ
  have hq:(codes τ == codes mBr) = decide (τ = mBr):=by rw [Bool.eq_iff_iff];simp [codes_inj]
  rw [codes_mBr] at hq
  have h2:tCmp eqD (dIdx (getV 3) (dK (.int 1))) (dK (.str "missing close-bracket")) (kst t m g (faultD τ) x) = ret' (decide (τ = mBr)):=by
    rw [← hq]
    simp only [tCmp,dIdx,dK,kst,getV_mk,lit_37]
    simp [f1]
  have h3:tCmp (ordD fun a b=>decide (b < a)) (getV 4) (dK (.int 0)) (kst t m g (faultD τ) x) = ret' (decide (0 < x)):=rfl
  simp only [lc_law_closers_right_1,tAnd,tAnd0,h1,h2,h3,bnd_ret,if_true]
  cases decide (τ = mBr) <;> cases decide (0 < x) <;> rfl
theorem kb_step {Ψ:Oracle} {R':Rs} {τ0:Str} (ht:m.length ≤ 900) (hcl:Ψ "_law_closed" [Sx (m ++ [93]),.int 0] = ret' (cloV (m ++ [93]) ((m ++ [93]).drop 1) R'))
    (hm:∃ m',m = 91 :: m') (hok:∀ v a r,R' = .ok v a r→r = []) (hlay:∀ v a r,R' = .ok v a r→okc m) (herr:∀ τ r,R' = .err τ r→IsErr τ∧¬ isX τ) :
    lb_law_closers_right_1 Ψ (kst t m g (faultD τ0) x) = some (kst t (m ++ [93]) (gotR (m ++ [93]) ((m ++ [93]).drop 1) R') (fltR R') (x - 1),.nxt):=by
  have ea:addD (Sx m) (Sx [93]) = some (Sx (m ++ [93])):=addD_mk (by simp;lia)
  have h1:sSwp [("made",1),("many",4)] (dTup (aCons (dBin addD (getV 1) (dK (.str "]"))) (aCons (dBin subD (getV 4) (dK (.int 1))) aNil))) (kst t m g (faultD τ0) x) = some (kst t (m ++ [93]) g (faultD τ0) (x - 1),.nxt):=by
    apply c_one;delta kst;simp! []
  rw [cloV_eq] at hcl
  have h2:sUnp [2,3] (dCall Ψ "_law_closed" (aCons (getV 1) (aCons (dK (.int 0)) aNil))) (kst t (m ++ [93]) g (faultD τ0) (x - 1)) = some (kst t (m ++ [93]) (gotR (m ++ [93]) ((m ++ [93]).drop 1) R') (fltR R') (x - 1),.nxt):=by
    apply c_one;delta kst;simp! []
  have hT:(tAnd (tCmp isD (getV 3) (dK .none)) (tAnd (tCmp neD (getV 2) (dTup (aCons (dCut (getV 1) (pOf (dK (.int 1))) (pOf (dOn negD (dK (.int 1))))) (aCons (dOn lenD (getV 1)) aNil)))) tAnd0)) (kst t (m ++ [93]) (gotR (m ++ [93]) ((m ++ [93]).drop 1) R') (fltR R') (x - 1)) = ret' false:=by
    cases R' with
    | err τ r =>
      have:tCmp isD (getV 3) (dK .none) (kst t (m ++ [93]) (gotR (m ++ [93]) ((m ++ [93]).drop 1) (.err τ r)) (faultD τ) (x - 1)) = ret' false:=rfl
      simp only [fltR,tAnd,this,bnd_ret]
      simp
    | ok v a r =>
      have:=hok v a r rfl
      subst this
      have ho:=hlay v a [] rfl
      obtain ⟨m',rfl⟩:=hm
      have hs:Small (91 :: m' ++ [93]):=by unfold Small;simp at ht ⊢;lia
      have e1:=cutMid (a:=91) (b:=93) (m:=m') hs
      have e2:=lenD_mk hs
      have e3:gotR (91 :: m' ++ [93]) ((91 :: m' ++ [93]).drop 1) (.ok v a []) = .tuple [Sx m',.int ((91 :: m' ++ [93]).length:Nat)]:=by
        simp only [gotR,List.cons_append,List.drop_succ_cons,List.drop_zero,pos_nil]
        rw [btw_app]
      have ly:LyA 1 [Sx m',.int ((91 :: m' ++ [93]).length:Nat)]:=LyA.app (a:=[Sx m']) (ly_Sx (okc_suf ho (List.suffix_cons ..))) (.one rfl (Nat.zero_le _))
      have e4:=neD_self ly (by lia)
      have h3:tCmp isD (getV 3) (dK .none) (kst t (91 :: m' ++ [93]) (gotR (91 :: m' ++ [93]) ((91 :: m' ++ [93]).drop 1) (.ok v a [])) .none (x - 1)) = ret' true:=rfl
      have h4:tCmp neD (getV 2) (dTup (aCons (dCut (getV 1) (pOf (dK (.int 1))) (pOf (dOn negD (dK (.int 1))))) (aCons (dOn lenD (getV 1)) aNil))) (kst t (91 :: m' ++ [93]) (gotR (91 :: m' ++ [93]) ((91 :: m' ++ [93]).drop 1) (.ok v a [])) .none (x - 1)) = ret' false:=by
        rw [e3]
        generalize ((91 :: m' ++ [93]).length:Int) = z at e2 e4
        generalize 91 :: m' ++ [93] = M at e1 e2
        delta kst;simp! only []
      simp only [fltR,tAnd,h3,h4,bnd_ret]
      rfl
  have hU:(tAnd (tCmp isnD (getV 3) (dK .none)) (tAnd (tCmp neD (dCut (dIdx (getV 3) (dK (.int 1))) pNo (pOf (dK (.int 7)))) (dK (.str "missing"))) tAnd0)) (kst t (m ++ [93]) (gotR (m ++ [93]) ((m ++ [93]).drop 1) R') (fltR R') (x - 1)) = ret' false:=by
    cases R' with
    | ok v a r =>
      have:tCmp isnD (getV 3) (dK .none) (kst t (m ++ [93]) (gotR (m ++ [93]) ((m ++ [93]).drop 1) (.ok v a r)) .none (x - 1)) = ret' false:=rfl
      simp only [fltR,tAnd,this,bnd_ret]
      simp
    | err τ r =>
      obtain ⟨hE,hX⟩:=herr τ r rfl
      have h3:tCmp isnD (getV 3) (dK .none) (kst t (m ++ [93]) (gotR (m ++ [93]) ((m ++ [93]).drop 1) (.err τ r)) (faultD τ) (x - 1)) = ret' true:=rfl
      have f1:=fault1 τ
      have f2:=cut7 (err_small hE).1
      have hmm:((codes τ).take 7 == ms7) = true:=by
        rw [isX_iff hE] at hX
        simpa using hX
      have h4:tCmp neD (dCut (dIdx (getV 3) (dK (.int 1))) pNo (pOf (dK (.int 7)))) (dK (.str "missing")) (kst t (m ++ [93]) (gotR (m ++ [93]) ((m ++ [93]).drop 1) (.err τ r)) (faultD τ) (x - 1)) = ret' (!((codes τ).take 7 == ms7)):=by
        delta kst;simp! only [ms7]
      rw [hmm] at h4
      simp only [fltR,tAnd,h3,h4,bnd_ret]
      rfl
  have e:lb_law_closers_right_1 Ψ = sCons (sSwp [("made",1),("many",4)] (dTup (aCons (dBin addD (getV 1) (dK (.str "]"))) (aCons (dBin subD (getV 4) (dK (.int 1))) aNil)))) (sCons (sUnp [2,3] (dCall Ψ "_law_closed" (aCons (getV 1) (aCons (dK (.int 0)) aNil)))) (sCons (sIte (tAnd (tCmp isD (getV 3) (dK .none)) (tAnd (tCmp neD (getV 2) (dTup (aCons (dCut (getV 1) (pOf (dK (.int 1))) (pOf (dOn negD (dK (.int 1))))) (aCons (dOn lenD (getV 1)) aNil)))) tAnd0)) (sCons (sRet (dK (.bool false))) sNil) sNil)
    (sCons (sIte (tAnd (tCmp isnD (getV 3) (dK .none)) (tAnd (tCmp neD (dCut (dIdx (getV 3) (dK (.int 1))) pNo (pOf (dK (.int 7)))) (dK (.str "missing"))) tAnd0)) (sCons (sRet (dK (.bool false))) sNil) sNil) sNil))):=rfl
  rw [e]
  show sbind (sSwp _ _ _) _ = _
  rw [h1,sbind_nxt]
  show sbind (sUnp _ _ _) _ = _
  rw [h2,sbind_nxt]
  show sbind (ebind (tAnd _ _ _) _ _) _ = _
  rw [hT,ebind_ret]
  show sbind (ebind (tAnd _ _ _) _ _) _ = _
  rw [hU,ebind_ret]
  rfl
end
end Mine
end
section
set_option tactic.hygienic false
open PySem PySem.W PyProof.Rows PySem.Spec PySem.Calls PySem.Builtin PySem.Builtin.Str
namespace Mine
theorem kl_loop {n:Nat} {t:List Nat} (ht:t.length ≤ 400) (ho:okc t) (hn:ms t + 3 ≤ n):∀ (k j N:Nat) (R:Rs),j + k = bb t + 1→k < N→P n (.brl (skipCmd false (Tw t j))) R →
    ∃ m' g' x' R',loopN lc_law_closers_right_1 (lb_law_closers_right_1 (Φ (n + 10))) N (kst t (91 :: Tw t j) (gotR (91 :: Tw t j) (Tw t j) R) (fltR R) ((bb t + 1:Nat) - (j:Nat):Int)) = some (kst t m' g' (fltR R') x',.nxt)∧∀ τ r,R' = .err τ r→IsErr τ∧τ ≠ mBr
  | k,j,N,R,hk,hN,h=>by
    obtain ⟨N,rfl⟩:∃ q,N = q + 1:=⟨N - 1,by lia⟩
    have hbb:bb t ≤ t.length:=List.count_le_length
    cases R with
    | ok v m r=>exact ⟨_,_,_,.ok v m r,loop_end kc_ok,fun τ r q=>by cases q⟩
    | err τ r =>
      by_cases hτ:τ = mBr
      · subst hτ
        have hj:=br_bound h
        obtain ⟨k,rfl⟩:∃ q,k = q + 1:=⟨k - 1,by lia⟩
        obtain ⟨R',h'⟩:=brl_Tw t (j + 1) hn
        have hm:=more_ok (by lia) h h'
        have hc:lc_law_closers_right_1 (kst t (91 :: Tw t j) (gotR (91 :: Tw t j) (Tw t j) (.err mBr r)) (fltR (.err mBr r)) ((bb t + 1:Nat) - (j:Nat):Int)) = ret' true:=by
          have:=kc_err (t:=t) (m:=91 :: Tw t j) (g:=gotR (91 :: Tw t j) (Tw t j) (.err mBr r)) (x:=((bb t + 1:Nat) - (j:Nat):Int)) (τ:=mBr)
          rw [show (decide (mBr = mBr) && decide ((0:Int) < ((bb t + 1:Nat) - (j:Nat):Int))) = true by simp;lia] at this
          exact this
        have e1:91 :: Tw t j ++ [93] = 91 :: Tw t (j + 1):=by rw [Tw_succ];rfl
        have hl:=Tw_len t j
        have hl2:=Tw_len t (j + 1)
        have hcl:=closed_ok h' (t:=91 :: Tw t (j + 1)) (by unfold Small;simp [hl2];lia) (List.suffix_refl _)
        rw [pos_self] at hcl
        have ot:okc (91 :: Tw t j):=by
          refine okc_cons (by lia) (okc_app ho (okc_cons (by lia) (okc_cons (by lia) ?_)))
          intro c hc
          rw [List.mem_replicate] at hc
          lia
        have st:=kb_step (Ψ:=Φ (n + 10)) (t:=t) (m:=91 :: Tw t j) (g:=gotR (91 :: Tw t j) (Tw t j) (.err mBr r)) (x:=((bb t + 1:Nat) - (j:Nat):Int)) (R':=R') (τ0:=mBr) (by simp [hl];lia) (by rw [e1];exact hcl) ⟨_,rfl⟩ hm.1 (fun _ _ _ _=>ot) (fun τ r q=>⟨h'.isErr q,hm.2 τ r q⟩)
        rw [e1] at st
        obtain ⟨m',g',x',R'',ih,hf⟩:=kl_loop ht ho hn k (j + 1) N R' (by lia) (by lia) h'
        refine ⟨m',g',x',R'',?_,hf⟩
        have ex:((bb t + 1:Nat) - ((j + 1:Nat)):Int) = ((bb t + 1:Nat) - (j:Nat):Int) - 1:=by lia
        rw [ex] at ih
        rw [← ih]
        exact loop_nxt hc st
      · refine ⟨_,_,_,.err τ r,loop_end ?_,fun τ' r' q=>by cases q;exact ⟨h.isErr rfl,hτ⟩⟩
        have:=kc_err (t:=t) (m:=91 :: Tw t j) (g:=gotR (91 :: Tw t j) (Tw t j) (.err τ r)) (x:=((bb t + 1:Nat) - (j:Nat):Int)) (τ:=τ)
        rw [show (decide (τ = mBr) && decide ((0:Int) < ((bb t + 1:Nat) - (j:Nat):Int))) = false by simp [hτ]] at this
        exact this
theorem cnt_count (c:Nat):∀ l:List Nat,cnt c l = (l.count c:Nat)
  | []=>rfl
  | x :: l=>by
    rw [cnt_cons,cnt_count c l,List.count_cons]
    by_cases h:x = c <;> simp [h] <;> lia
theorem countD_mk (m:List Nat) (c:Nat):countD (Sx m) [Sx [c]] = some (.int (m.count c:Nat)):=by
  show some (PyData.int (Txt.count (mk m) (mk [c]))) = _
  have:Txt.count (mk m) (mk [c]) = cnt c (mk m).cps.toList:=count_cnt (mk m) c
  rw [this,mk_cps,cnt_count]
theorem closers_ok {n:Nat} {t:List Nat} (ht:t.length ≤ 400) (ho:okc t) (hn:ms t + 3 ≤ n):Φ (n + 11) "_law_closers_right" [Sx t] = ret' (.bool true):=by
  rw [phi_law_closers_right (by lia)]
  obtain ⟨R,h⟩:=brl_Tw t 0 hn
  have hbb:bb t ≤ t.length:=List.count_le_length
  have hl:=Tw_len t 0
  have hcl:=closed_ok h (t:=91 :: Tw t 0) (by unfold Small;simp [hl];lia) (List.suffix_refl _)
  rw [pos_self] at hcl
  obtain ⟨m',g',x',R',hL,hf⟩:=kl_loop ht ho hn (bb t + 1) 0 bigN R (by lia) (by unfold bigN;lia) h
  have ec:((bb t + 1:Nat) - ((0:Nat)):Int) = ((91 :: Tw t 0).count 91:Nat):=by
    have:(91 :: Tw t 0).count 91 = bb t + 1:=by
      have e:=bb_91 (Tw t 0)
      rw [bb_Tw] at e
      exact e
    rw [this];lia
  rw [ec] at hL
  have eT:91 :: t ++ [10,10] = 91 :: Tw t 0:=by simp [Tw]
  have e1:sAsg 1 (dBin addD (dBin addD (dK (.str "[")) (getV 0)) (dK (.str "\n\n"))) ⟨[some (Sx t),none,none,none,none],none⟩ = some (⟨[some (Sx t),some (Sx (91 :: Tw t 0)),none,none,none],none⟩,.nxt):=by
    have a1:addD (Sx [91]) (Sx t) = some (Sx (91 :: t)):=addD_mk (by simp;lia)
    have a2:addD (Sx (91 :: t)) (Sx [10,10]) = some (Sx (91 :: Tw t 0)):=by rw [addD_mk (by simp;lia),eT]
    apply c_one;simp! []
  rw [cloV_eq] at hcl
  have e2:sUnp [2,3] (dCall (Φ (n + 10)) "_law_closed" (aCons (getV 1) (aCons (dK (.int 0)) aNil))) ⟨[some (Sx t),some (Sx (91 :: Tw t 0)),none,none,none],none⟩ = some (⟨[some (Sx t),some (Sx (91 :: Tw t 0)),some (gotR (91 :: Tw t 0) (Tw t 0) R),some (fltR R),none],none⟩,.nxt):=by
    apply c_one;simp! []
  have e3:sAsg 4 (dMeth countD (getV 1) (aCons (dK (.str "[")) aNil)) ⟨[some (Sx t),some (Sx (91 :: Tw t 0)),some (gotR (91 :: Tw t 0) (Tw t 0) R),some (fltR R),none],none⟩ = some (kst t (91 :: Tw t 0) (gotR (91 :: Tw t 0) (Tw t 0) R) (fltR R) ((91 :: Tw t 0).count 91:Nat),.nxt):=by
    have:=countD_mk (91 :: Tw t 0) 91
    generalize (((91 :: Tw t 0).count 91:Nat):Int) = z at this
    generalize 91 :: Tw t 0 = M at this
    change countD (Sx M) [.str "["] = _ at this
    apply c_one;delta kst;simp! []
  have e4:sWhile lc_law_closers_right_1 (lb_law_closers_right_1 (Φ (n + 10))) (kst t (91 :: Tw t 0) (gotR (91 :: Tw t 0) (Tw t 0) R) (fltR R) ((91 :: Tw t 0).count 91:Nat)) = some (kst t m' g' (fltR R') x',.nxt):=hL
  have e5:(sRet (dOr2 (dCmp isD (getV 3) (dK .none)) (dCmp neD (dIdx (getV 3) (dK (.int 1))) (dK (.str "missing close-bracket"))))) (kst t m' g' (fltR R') x') = some (kst t m' g' (fltR R') x',.ret (.bool true)):=by
    cases R' with
    | ok v m r =>
      have h1:dCmp isD (getV 3) (dK .none) (frz (kst t m' g' .none x')) = ret' (.bool true):=rfl
      show ebind (bnd _ _) _ _ = _
      rw [show fltR (.ok v m r) = .none from rfl,h1]
      rfl
    | err τ r =>
      obtain ⟨hE,hx⟩:=hf τ r rfl
      have h1:dCmp isD (getV 3) (dK .none) (frz (kst t m' g' (faultD τ) x')) = ret' (.bool false):=rfl
      have f1:=fault1 τ
      have hq:(codes τ == codes mBr) = false:=by
        rw [Bool.eq_false_iff];intro q;exact hx (codes_inj.mp (beq_iff_eq.mp q))
      rw [codes_mBr] at hq
      have h2:dCmp neD (dIdx (getV 3) (dK (.int 1))) (dK (.str "missing close-bracket")) (frz (kst t m' g' (faultD τ) x')) = ret' (.bool true):=by
        delta kst;simp! only [hq]
      show ebind (bnd _ _) _ _ = _
      rw [show fltR (.err τ r) = faultD τ from rfl,h1]
      have key:∀ Z:Res PyData,bnd (ret' (PyData.bool false)) (fun x=>bnd (lft (boolD x)) fun c=>if c = true then ret' (PyData.bool true) else Z) = Z:=fun Z=>rfl
      rw [key,h2]
      rfl
  show (sbind (sAsg 1 _ _) _).map outR = _
  rw [e1,sbind_nxt]
  show (sbind (sUnp _ _ _) _).map outR = _
  rw [e2,sbind_nxt]
  show (sbind (sAsg 4 _ _) _).map outR = _
  rw [e3,sbind_nxt]
  show (sbind (sWhile _ _ _) _).map outR = _
  rw [e4,sbind_nxt]
  show (sbind (sRet _ _) _).map outR = _
  rw [e5]
  rfl
end Mine
end
section
set_option tactic.hygienic false
open PySem PySem.W PyProof.Rows PySem.Spec PySem.Calls PySem.Builtin PySem.Builtin.Str
namespace Mine
theorem word_shape {n:Nat} {b:Bool} {s:List Nat} {v:List PyData} {m r:List Nat} (h:P n (.word b s) (.ok v m r)):∃ e ps,v = [wordD e ps]:=⟨isExp s,(word_cases h).2⟩
noncomputable def WsV (s:List Nat) (acc:List PyData):Rs→Prop
  | .ok v _ _=>(∃ V e ps,v = V ++ [wordD e ps])∧v.length ≤ acc.length + s.length + 1
  | .err _ _=>True
noncomputable def WsVM:Call→Rs→Prop
  | .ws _ s acc,R=>WsV s acc R
  | _,_=>True
theorem WsV.one {s m:List Nat} {acc:List PyData} {w:PyData} (h:∃ e ps,[w] = [wordD e ps]):WsV s acc (.ok (acc ++ [w]) m m):=by
  obtain ⟨e,ps,h⟩:=h
  cases h
  exact ⟨⟨_,_,_,rfl⟩,by simp⟩
theorem ws_v' {n:Nat} {k:Call} {R:Rs} (h:P n k R):WsVM k R:=by
  induction h with
  | s_end h1 _ _=>exact WsV.one (m:=[]) (word_shape h1)
  | s_nl h1 _ _ _=>exact WsV.one (m:=[]) (word_shape h1)
  | s_cl h1 _ _=>exact WsV.one (m:=[]) (word_shape h1)
  | @s_next n b s acc w m e c r R h1 hg hlt _ _ _ _ i1 i2 =>
    cases R with
    | err _ _=>trivial
    | ok v' m' r' =>
      refine ⟨(show WsV (c :: r) (acc ++ [w]) (.ok v' m' r') from i2).1,?_⟩
      have h4:=(show WsV (c :: r) (acc ++ [w]) (.ok v' m' r') from i2).2
      have h5:=h1.suf.1.length_le
      have h6:=h1.suf.2.length_le
      simp only [Rs.rest,Rs.mid,Call.tx] at h5 h6
      rw [List.length_append] at h4
      simp only [List.length_cons,List.length_nil] at h4 hlt
      lia
  | _=>trivial
theorem ws_v {n:Nat} {k:Call} {R:Rs} (h:P n k R):∀ {b s acc v m r},k = .ws b s acc→R = .ok v m r→(∃ V e ps,v = V ++ [wordD e ps])∧v.length ≤ acc.length + s.length + 1:=by
  rintro b s acc v m r rfl rfl
  exact ws_v' h
noncomputable def CmdOk (N:Nat) (c:Cmd):Prop:=LyA N c.1∧lfs c.1 = true∧(∃ V e ps,c.1 = V ++ [wordD e ps])∧c.1.length ≤ 1001
theorem Cs.ok {n:Nat} {b:Bool} {s:List Nat} {L:List Cmd} {f:Option Str} (h:Cs n b s L f):okc s→s.length ≤ 1000→∀ c ∈ L,CmdOk (n + 3) c:=by
  induction h with
  | done _=>intro _ _ c hc;cases hc
  | err _ _=>intro _ _ c hc;cases hc
  | @step s v m r L f hw h1 _ ih =>
    intro ho hs c hc
    have s1:=skipCmd_suf false s
    have s2:=(h1.suf.1.trans h1.suf.2).trans s1
    simp only [Rs.rest] at s2
    rcases List.mem_cons.mp hc with rfl | hc
    · have hv:=ws_v h1 rfl rfl
      refine ⟨P.ly h1 (okc_suf ho s1) (.nil _),h1.lfs rfl,hv.1,?_⟩
      have:=hv.2
      have:=s1.length_le
      simp at *
      lia
    · exact ih (okc_suf ho s2) (Nat.le_trans s2.length_le hs) c hc
noncomputable def bkV (t:List Nat) (c:Cmd):PyData:=.tuple [.tuple c.1,.int (pos t c.2.1 - 1),.int (pos t c.2.2.1 - 1),.int (pos t c.2.2.2 - 1)]
theorem mapO_back (t:List Nat):∀ L:List Cmd,mapO backD (L.map (cmdV t)) = some (L.map (bkV t))
  | []=>rfl
  | c :: L=>by
    show obind (some (bkV t c)) (fun e=>obind (mapO backD (L.map (cmdV t))) fun es=>some (e :: es)) = _
    rw [mapO_back t L];rfl
theorem bk_lfs (t:List Nat) {N:Nat}:∀ L:List Cmd,(∀ c ∈ L,CmdOk N c)→lfs (L.map (bkV t)) = true
  | [],_=>rfl
  | c :: L,h=>by
    have h1:=(h c (List.mem_cons_self ..)).2.1
    have h2:=bk_lfs t L fun c hc=>h c (List.mem_cons_of_mem _ hc)
    simp [bkV,h1,h2]
theorem bk_ly (t:List Nat) {N:Nat}:∀ L:List Cmd,(∀ c ∈ L,CmdOk N c)→LyA (N + 2) (L.map (bkV t))
  | [],_=>.nil _
  | c :: L,h=>by
    have h1:=(h c (List.mem_cons_self ..)).1
    have h2:=bk_ly t L fun c hc=>h c (List.mem_cons_of_mem _ hc)
    have h3:=LyA.tup (LyA.app (a:=[.tuple c.1]) (.one h1.tup.1 h1.tup.2) (b:=[.int (pos t c.2.1 - 1),.int (pos t c.2.2.1 - 1),.int (pos t c.2.2.2 - 1)]) ⟨rfl,by show Nat.max _ _ ≤ _;simp [PyData.depthAll,PyData.depth]⟩)
    exact .cons h3.1 h3.2 h2
theorem bk_in {inner w μ ρ:List Nat} {v:List PyData}:bkV (91 :: (inner ++ [93])) (v,w ++ [93],μ ++ [93],ρ ++ [93]) = cmdV inner (v,w,μ,ρ):=by
  have e:∀ x:List Nat,pos (91 :: (inner ++ [93])) (x ++ [93]) - 1 = pos inner x:=fun x=>by unfold pos;simp;lia
  simp only [bkV,cmdV,e]
theorem al_len {inner:List Nat} {L L':List Cmd} (h:Al inner L L'):L'.length = L.length:=by
  induction h with
  | nil=>rfl
  | exc _ _=>rfl
  | cons _ _ _ _ _ ih=>simp [ih]
theorem al_split {inner:List Nat} {L L':List Cmd} (h:Al inner L L'):∀ {N},(∀ c ∈ L,CmdOk N c)→L ≠ []→∃ D V e ps w μ ρ x',L.map (bkV (91 :: (inner ++ [93]))) = D ++ [cmdV inner (V ++ [wordD e ps],w,μ,ρ)]∧L'.map (cmdV inner) = D ++ [cmdV inner (V ++ [x'],w,μ,ρ)] ∧
    CmdOk N (V ++ [wordD e ps],w,μ,ρ)∧μ <:+ inner∧(if e = true∧ps = []∧μ = []∧star <:+ inner then x' = wordD false [textD [42]] else x' = wordD e ps):=by
  induction h with
  | nil=>intro N _ h;exact absurd rfl h
  | @exc V w hs hw =>
    intro N hc _
    refine ⟨[],V,true,[],w,[],[],_,?_,rfl,?_,List.nil_suffix,?_⟩
    · have:=bk_in (inner:=inner) (v:=V ++ [wordD true []]) (w:=w) (μ:=[]) (ρ:=[])
      simpa using this
    · have:=hc _ (List.mem_cons_self ..)
      exact this
    · rw [if_pos ⟨rfl,rfl,rfl,hs⟩]
  | @cons v w μ ρ L L' hx hw hμ hρ hA ih =>
    intro N hc _
    by_cases hL:L = []
    · subst hL
      obtain ⟨h1,h2,⟨V,e,ps,h3⟩,h4⟩:=hc _ (List.mem_cons_self ..)
      simp only at h3
      subst h3
      have hL':L' = []:=List.eq_nil_of_length_eq_zero (al_len hA)
      subst hL'
      refine ⟨[],V,e,ps,w,μ,ρ,_,?_,rfl,⟨h1,h2,⟨V,e,ps,rfl⟩,h4⟩,hμ,?_⟩
      · simpa using bk_in (inner:=inner) (v:=V ++ [wordD e ps]) (w:=w) (μ:=μ) (ρ:=ρ)
      · rw [if_neg]
        rintro ⟨rfl,rfl,h5,h6⟩
        exact hx rfl (by simp) h5 h6
    · obtain ⟨D,V,e,ps,w',μ',ρ',x',h1,h2,h3,h4,h5⟩:=ih (fun c h=>hc c (List.mem_cons_of_mem _ h)) hL
      refine ⟨cmdV inner (v,w,μ,ρ) :: D,V,e,ps,w',μ',ρ',x',?_,?_,h3,h4,h5⟩
      · rw [List.map_cons,h1,bk_in];rfl
      · rw [List.map_cons,h2];rfl
theorem cut_neg3 {t:List Nat} (ht:Small t):cutD (Sx t) (some (-3)) none = some (Sx (t.drop (t.length - 3))):=by
  unfold cutD Sx
  unfold Small at ht
  dsimp only
  rw [if_pos (by rw [mk_len];lia)]
  by_cases h:3 ≤ t.length
  · rw [slice_neg_from t (by lia) (by lia)]
    have e:((-3:Int) + t.length).toNat = t.length - 3:=by lia
    rw [e]
  · have e:Txt.slice (mk t) (some (-3)) none = Txt.slice (mk t) (some 0) (some (t.length:Int)):=by
      unfold Txt.slice
      have e2:strSliceIndices (some (-3)) none 1 (mk t).length = strSliceIndices (some 0) (some (t.length:Int)) 1 (mk t).length:=by
        rw [← mk_len t,← StrLaws.sliceIdx_none_hi]
        unfold strSliceIndices
        rw [mk_len]
        have:(-3:Int) + t.length < 0:=by lia
        simp [this]
        rw [show max 0 (min ((-3:Int) + t.length) t.length) = max 0 (min 0 (t.length:Int)) by lia]
      rw [e2]
    rw [e,slice_mk t (by lia) (by lia)]
    have e3:t.length - 3 = 0:=by lia
    rw [e3]
    simp
theorem item_lastL {D:List PyData} {x:PyData} (h:D.length ≤ 1000000):itemD (.list (D ++ [x])) (.int (-1)) = some x:=by
  unfold itemD
  dsimp only
  rw [if_pos ⟨by decide,by decide⟩]
  have:seqIndex? (-1) (D ++ [x]).length = some D.length:=by
    unfold seqIndex?
    have e:((D ++ [x]).length:Int) = D.length + 1:=by simp
    simp
    try lia
  rw [this]
  simp
theorem item_lastT {D:List PyData} {x:PyData} (h:D.length ≤ 1000000):itemD (.tuple (D ++ [x])) (.int (-1)) = some x:=item_lastL (x:=x) h
theorem eqD_list_nil {l:List PyData} {N:Nat} (h:LyA N l):neD (.list l) (.list []) = some (!l.isEmpty):=by
  have h1:(PyData.list l).canLay0 = true:=by simp only [PyData.canLay0];exact h.1
  have:eqD (.list l) (.list []) = some l.isEmpty:=by
    show (if _ then some (PyData.eqv (.list l) (.list [])) else none) = _
    rw [if_pos ⟨h1,rfl,by have:(PyData.list []).depth = 1:=rfl;rw [this];lia⟩]
    cases l <;> rfl
  unfold neD;rw [this];rfl
theorem eqD_star {e:Bool} {ps:List PyData} {N:Nat} (h:LyA N [wordD e ps]):eqD (wordD e ps) (wordD true []) = some (e && ps.isEmpty):=by
  have h1:=h.head.1
  show (if _ then some (PyData.eqv (wordD e ps) (wordD true [])) else none) = _
  rw [if_pos ⟨h1,rfl,by have:(wordD true []).depth = 2:=rfl;rw [this];lia⟩]
  cases e <;> cases ps <;> rfl
end Mine
end
section
set_option tactic.hygienic false
open PySem PySem.W PyProof.Rows PySem.Spec PySem.Calls PySem.Builtin PySem.Builtin.Str
namespace Mine
noncomputable def ast (inner:List Nat) (a b c d:Option PyData) (F:List PyData):Store:=⟨[none,some (Sx inner),none,a,b,c,d],some (2,F)⟩
noncomputable def aT:Store→Res Bool:=(tAnd (tCmp eqD (dIdx (getV 3) (dOn negD (dK (.int 1)))) (dTup (aCons (dK (.bool true)) (aCons (dTup aNil) aNil)))) (tAnd (tCmp eqD (getV 5) (dOn lenD (getV 1))) (tAnd (tCmp eqD (dCut (getV 1) (pOf (dOn negD (dK (.int 3)))) pNo) (dK (.str "{*}"))) tAnd0)))
theorem lft_s {α:Type} (a:α):lft (some a) = ret' a:=rfl
noncomputable def aF:Store→Res PyData:=(dTup (aCons (dBin addT (dOn lastCut (getV 3)) (dTup (aCons (dTup (aCons (dK (.bool false)) (aCons (dTup (aCons (dTup (aCons (dK (.str "text")) (aCons (dK (.str "*")) aNil))) aNil)) aNil))) aNil))) (aCons (getV 4) (aCons (getV 5) (aCons (getV 6) aNil)))))
theorem drop_star {inner:List Nat}:(inner.drop (inner.length - 3) == star) = true ↔ star <:+ inner:=by
  rw [beq_iff_eq]
  constructor
  · intro h;rw [← h];exact List.drop_suffix _ _
  · intro h;have:=suf_drop h;exact this
theorem pos_eq_len {t μ:List Nat}:(pos t μ == (t.length:Int)) = decide (μ = []):=by
  rw [Bool.eq_iff_iff,beq_iff_eq,decide_eq_true_eq]
  unfold pos
  constructor
  · intro h;exact List.eq_nil_of_length_eq_zero (by lia)
  · rintro rfl;simp
section
variable {inner:List Nat} {V:List PyData} {e:Bool} {ps:List PyData} {b en af:Int} {F:List PyData}
theorem aT_ok {N:Nat} (hs:Small inner) (hV:V.length ≤ 1000000) (hl:LyA N [wordD e ps]) {z:Int} (hz:z = inner.length):aT (ast inner (some (.tuple (V ++ [wordD e ps]))) (some (.int b)) (some (.int en)) (some (.int af)) F) = ret' ((e && ps.isEmpty) && (en == z) && (inner.drop (inner.length - 3) == star)):=by
  have i1:=item_lastT (x:=wordD e ps) hV
  have i2:=eqD_star hl
  have h1:tCmp eqD (dIdx (getV 3) (dOn negD (dK (.int 1)))) (dTup (aCons (dK (.bool true)) (aCons (dTup aNil) aNil))) (ast inner (some (.tuple (V ++ [wordD e ps]))) (some (.int b)) (some (.int en)) (some (.int af)) F) = ret' (e && ps.isEmpty):=by
    have i3:eqD (wordD e ps) (.tuple [.bool true,.tuple []]) = some (e && ps.isEmpty):=i2
    delta ast;simp! only []
  have l1:=lenD_mk hs
  rw [← hz] at l1
  have h2:tCmp eqD (getV 5) (dOn lenD (getV 1)) (ast inner (some (.tuple (V ++ [wordD e ps]))) (some (.int b)) (some (.int en)) (some (.int af)) F) = ret' (en == z):=by
    delta ast;simp! only []
  have l2:=cut_neg3 hs
  have h3:tCmp eqD (dCut (getV 1) (pOf (dOn negD (dK (.int 3)))) pNo) (dK (.str "{*}")) (ast inner (some (.tuple (V ++ [wordD e ps]))) (some (.int b)) (some (.int en)) (some (.int af)) F) = ret' (inner.drop (inner.length - 3) == star):=by
    delta ast;simp! only [star]
  simp only [aT,tAnd,tAnd0,h1,h2,h3,bnd_ret]
  cases (e && ps.isEmpty) <;> cases (en == z) <;> cases (inner.drop (inner.length - 3) == star) <;> rfl
theorem aF_ok {w:PyData} (hV:V.length ≤ 100000):aF (ast inner (some (.tuple (V ++ [w]))) (some (.int b)) (some (.int en)) (some (.int af)) F) = ret' (.tuple [.tuple (V ++ [wordD false [textD [42]]]),.int b,.int en,.int af]):=by
  have i1:lastCut (.tuple (V ++ [w])) = some (.tuple V):=by
    unfold lastCut
    dsimp only
    rw [if_pos ⟨by simp,by simp;lia⟩]
    simp
  have i2:addT (.tuple V) (.tuple [wordD false [textD [42]]]) = some (.tuple (V ++ [wordD false [textD [42]]])):=by
    unfold addT
    dsimp only
    rw [if_pos (by simp;lia)]
  have i3:addT (.tuple V) (.tuple [.tuple [.bool false,.tuple [.tuple [Sx [116,101,120,116],Sx [42]]]]]) = some (.tuple (V ++ [wordD false [textD [42]]])):=i2
  delta aF ast;simp! only []
end
noncomputable def aK:Store→Option Out :=
  sCons (sIte (dFrz (tCmp neD (getV 2) (dLst aNil))) (sCons (sUnp [3,4,5,6] (dFrz (dIdx (getV 2) (dOn negD (dK (.int 1)))))) (sCons (sIte aT (sCons (setLastV 2 aF) sNil) sNil) sNil)) sNil) (sCons (sRet (getV 2)) sNil)
theorem alone_den (Ψ:Oracle) (σ:Store):den_law_alone Ψ σ = sbind (sOwn 2 (nComp backD (getV 0)) σ) aK:=rfl
theorem aK_den (σ:Store):aK σ = sbind (ebind (tCmp neD (getV 2) (dLst aNil) (frz σ)) σ fun x=>if x then sbind (sUnp [3,4,5,6] (dFrz (dIdx (getV 2) (dOn negD (dK (.int 1))))) σ) (sCons (sIte aT (sCons (setLastV 2 aF) sNil) sNil) sNil) else some (σ,.nxt)) (sCons (sRet (getV 2)) sNil):=rfl
theorem alone_ok {n N:Nat} {inner:List Nat} {L L':List Cmd} (h:Al inner L L') (hc:∀ c ∈ L,CmdOk N c) (hs:Small inner) (hL:L.length ≤ 1000):Φ (n + 4) "_law_alone" [.list (L.map (cmdV (91 :: (inner ++ [93])))),Sx inner] = ret' (.list (L'.map (cmdV inner))):=by
  rw [phi_law_alone (by lia)]
  generalize hT:91 :: (inner ++ [93]) = T
  have hlfs:=bk_lfs T L hc
  have hly:=bk_ly T L hc
  have hmap:=mapO_back T L
  have hlen:(L.map (bkV T)).length ≤ 1000:=by rw [List.length_map];exact hL
  have e1:sOwn 2 (nComp backD (getV 0)) ⟨[some (.list (L.map (cmdV T))),some (Sx inner),none,none,none,none,none],none⟩ = some (ast inner none none none none (L.map (bkV T)),.nxt):=by
    have hcd:compD backD (.list (L.map (cmdV T))) = some (L.map (bkV T)):=by
      unfold compD
      show (if _ then _ else none) = _
      rw [if_pos (by rw [List.length_map];lia),hmap]
      show (if _ then _ else none) = _
      rw [if_pos hlfs]
    have hlist:lf (.list (L.map (cmdV T))) = false:=rfl
    simp [hcd,ownV,hlfs,dropV,hlist,ast]
  have c1:tCmp neD (getV 2) (dLst aNil) (frz (ast inner none none none none (L.map (bkV T)))) = ret' (!(L.map (bkV T)).isEmpty):=by
    have:=eqD_list_nil hly
    have l0:listD [] = ret' (.list []):=rfl
    simp only [tCmp,ast,frz_own,getV_mk,dLst,aNil,bnd_ret,l0]
    simp [this]
  by_cases hL0:L = []
  · subst hL0
    have:L' = []:=List.eq_nil_of_length_eq_zero (al_len h)
    subst this
    rw [alone_den,e1,sbind_nxt,aK_den,c1,ebind_ret]
    rfl
  · obtain ⟨D,V,e,ps,w,μ,ρ,x',h1,h2,⟨k1,k2,k3,k4⟩,h4,h5⟩:=al_split h hc hL0
    simp only at k1 k2 k4
    rw [hT] at h1
    have hV:V.length ≤ 1000:=by rw [List.length_append] at k4;simp at k4;lia
    have hD:D.length ≤ 1000000:=by
      have:=congrArg List.length h1
      rw [List.length_append] at this
      simp at this
      lia
    have e2:sUnp [3,4,5,6] (dFrz (dIdx (getV 2) (dOn negD (dK (.int 1))))) (ast inner none none none none (L.map (bkV T))) = some (ast inner (some (.tuple (V ++ [wordD e ps]))) (some (.int (pos inner w))) (some (.int (pos inner μ))) (some (.int (pos inner ρ))) (L.map (bkV T)),.nxt):=by
      have i1:=item_lastL (D:=D) (x:=cmdV inner (V ++ [wordD e ps],w,μ,ρ)) hD
      rw [h1]
      simp only [dFrz,ast,sUnp,frz_own,dIdx,getV_mk,dOn,dK,bnd_ret,negD_int,lft_s]
      have l3:lfs (V ++ [wordD e ps]) = true:=k2
      have l4:lf (.tuple (V ++ [wordD e ps])) = true:=l3
      simp only [List.set_cons_succ,List.set_cons_zero,List.getElem?_cons_succ,List.getElem?_cons_zero,bnd_ret,i1,lft_s,ebind_ret]
      simp [cmdV,l4]
    have hz:=(rfl:(inner.length:Int) = inner.length)
    have hl2:LyA N [wordD e ps]:=by
      have:∀ (a b:List PyData),LyA N (a ++ b)→LyA N b:=fun a b hh=>by
        induction a with
        | nil=>exact hh
        | cons x a ih=>exact ih (LyA.head hh).2.2
      exact this V _ k1
    have e3:=aT_ok (b:=pos inner w) (en:=pos inner μ) (af:=pos inner ρ) (F:=L.map (bkV T)) hs (by lia:V.length ≤ 1000000) hl2 (z:=inner.length) rfl
    rw [pos_eq_len] at e3
    have neg:(!(L.map (bkV T)).isEmpty) = true:=by rw [h1];simp
    rw [neg] at c1
    rw [alone_den,e1,sbind_nxt,aK_den,c1,ebind_ret,if_pos rfl,e2,sbind_nxt]
    show (sbind (sbind (ebind (aT _) _ _) _) _).map outR = _
    rw [e3,ebind_ret]
    by_cases hcond:e = true∧ps = []∧μ = []∧star <:+ inner
    · rw [if_pos hcond] at h5
      obtain ⟨rfl,rfl,rfl,hst⟩:=hcond
      subst h5
      rw [if_pos (by rw [drop_star.mpr hst];rfl)]
      have e4:setLastV 2 aF (ast inner (some (.tuple (V ++ [wordD true []]))) (some (.int (pos inner w))) (some (.int (pos inner []))) (some (.int (pos inner ρ))) (L.map (bkV T))) =
          some (ast inner (some (.tuple (V ++ [wordD true []]))) (some (.int (pos inner w))) (some (.int (pos inner []))) (some (.int (pos inner ρ))) (L'.map (cmdV inner)),.nxt):=by
        have a1:=aF_ok (inner:=inner) (b:=pos inner w) (en:=pos inner []) (af:=pos inner ρ) (F:=L.map (bkV T)) (w:=wordD true []) (by lia:V.length ≤ 100000)
        unfold setLastV
        show (if _ then _ else none) = _
        rw [if_pos ⟨rfl,by rw [h1];simp⟩,a1,ebind_ret]
        have l3:lfs V = true:=by rw [lfs_app] at k2;exact (Bool.and_eq_true_iff.mp k2).1
        rw [if_pos (by simp [lfs_app,l3])]
        rw [h1,h2]
        simp [ast,cmdV]
      show (sbind (sbind (sbind (setLastV 2 aF _) _) _) _).map outR = _
      rw [e4]
      rfl
    · rw [if_neg hcond] at h5
      subst h5
      rw [if_neg (by
        intro q
        rw [Bool.and_eq_true,Bool.and_eq_true,Bool.and_eq_true,List.isEmpty_iff,decide_eq_true_eq,drop_star] at q
        exact hcond ⟨q.1.1.1,q.1.1.2,q.1.2,q.2⟩)]
      have:L.map (bkV T) = L'.map (cmdV inner):=by rw [h1,h2]
      rw [this]
      rfl
end Mine
end
section
set_option tactic.hygienic false
open PySem PySem.W PyProof.Rows PySem.Spec PySem.Calls PySem.Builtin PySem.Builtin.Str
namespace Mine
theorem brl_put {n:Nat} {s r:List Nat} {v:List PyData} {m:List Nat} (h:P n (.brl (skipCmd false (s ++ 93 :: r))) (.ok v m r)):v = []∧m = r∧∀ x,P n (.brl (skipCmd false (s ++ 93 :: x))) (.ok [] x x):=by
  obtain ⟨rfl,rfl⟩:=brl_cases h rfl rfl
  refine ⟨rfl,rfl,fun x=>?_⟩
  have hlt:=brl_lt h rfl rfl
  have e0:∀ y:List Nat,s ++ 93 :: y = (s ++ [93]) ++ y:=fun y=>by simp
  rw [e0] at h hlt
  rw [e0]
  obtain ⟨ρ,_,hρ,k0,k1⟩:=skipCmd_ag (s0:=m) (s1:=x) false (s ++ [93]) hlt (.of93 _ _) (.of93 _ _)
  rw [k0] at h
  rw [k1]
  have c93:∀ y,Cm ρ y:=fun y=>(Cm.of93 s y).suf hρ
  obtain ⟨ρ',e,_,p⟩:=ag_ok (agree h (c:=ρ) (s0:=m) (s1:=x) rfl (c93 _) (c93 _) (Nat.le_refl _))
  have:ρ' = []:=by
    have:=congrArg List.length e
    simp at this
    exact this
  subst this
  exact p
noncomputable def rowT (s:List Nat):List Nat:=114 :: 32 :: 120 :: 91 :: (s ++ 93 :: 121 :: 32 :: 34 :: 91 :: (s ++ 93 :: 34 :: 32 :: 36 :: 97 :: 40 :: 91 :: (s ++ [93,41])))
noncomputable def rowW (s:List Nat):List PyData:=[wordD false [textD [114]],wordD false [textD [120],cmdD s,textD [121]],wordD false [cmdD s],wordD false [varD [97] (.tuple [cmdD s])]]
section
variable {n:Nat} {s:List Nat} (hB:∀ x,P n (.brl (skipCmd false (s ++ 93 :: x))) (.ok [] x x))
include hB
theorem br_P {K:Kd} {run:List Nat} {acc:List PyData} {x:List Nat} {R:Rs} (h:P (n + 1) (.pts K x [] (fin run acc ++ [cmdD s])) R):P (n + 1) (.pts K (91 :: (s ++ 93 :: x)) run acc) R:=by
  refine .p_br (hB x) ?_
  rw [btw_app];exact h
omit hB in
theorem w1_P (u:List Nat):P (n + 4) (.word false (114 :: 32 :: u)) (.ok [wordD false [textD [114]]] (32 :: u) (32 :: u)):=by
  have h1:P (n + 3) (.pts (.bare false) (114 :: 32 :: u) [] []) (.ok [textD [114]] (32 :: u) (32 :: u)):=.p_run (by decide) (.p_stop (by decide))
  exact .w_bare (s:=114 :: 32 :: u) (by show (some 114:Option Nat) ≠ _;decide) (by show (some 114:Option Nat) ≠ _;decide) h1
theorem w2_P (u:List Nat):P (n + 4) (.word false (120 :: 91 :: (s ++ 93 :: 121 :: 32 :: u))) (.ok [wordD false [textD [120],cmdD s,textD [121]]] (32 :: u) (32 :: u)):=by
  have h3:P (n + 1) (.pts (.bare false) (121 :: 32 :: u) [] [textD [120],cmdD s]) (.ok [textD [120],cmdD s,textD [121]] (32 :: u) (32 :: u)):=.p_run (by decide) (.p_stop (by decide))
  have h2:=br_P hB (K:=.bare false) (run:=[120]) (acc:=[]) h3
  have h1:P (n + 1) (.pts (.bare false) (120 :: 91 :: (s ++ 93 :: 121 :: 32 :: u)) [] []) _:=.p_run (by decide) h2
  exact .w_bare (s:=120 :: 91 :: (s ++ 93 :: 121 :: 32 :: u)) (by show (some 120:Option Nat) ≠ _;decide) (by show (some 120:Option Nat) ≠ _;decide) (h1.le (by lia))
theorem w3_P (u:List Nat):P (n + 4) (.word false (34 :: 91 :: (s ++ 93 :: 34 :: u))) (.ok [wordD false [cmdD s]] u u):=by
  have h3:P (n + 1) (.pts .quote (34 :: u) [] [cmdD s]) (.ok [cmdD s] (34 :: u) (34 :: u)):=.p_stop (by decide)
  have h2:=br_P hB (K:=.quote) (run:=[]) (acc:=[]) h3
  exact .w_quote (s:=34 :: 91 :: (s ++ 93 :: 34 :: u)) rfl (h2.le (by lia))
theorem w4_P:P (n + 4) (.word false (36 :: 97 :: 40 :: 91 :: (s ++ [93,41]))) (.ok [wordD false [varD [97] (.tuple [cmdD s])]] [] []):=by
  have h3:P (n + 1) (.pts .paren [41] [] [cmdD s]) (.ok [cmdD s] [41] [41]):=.p_stop (by decide)
  have h2:=br_P hB (K:=.paren) (run:=[]) (acc:=[]) h3
  have hn:nameR false (97 :: 40 :: 91 :: (s ++ [93,41])) = 40 :: 91 :: (s ++ [93,41]):=by simp [nameR_e,digitv]
  have h4:=P.v_ix (s:=97 :: 40 :: 91 :: (s ++ [93,41])) (by show (some 97:Option Nat) ≠ _;decide) hn h2
  rw [show btw (97 :: 40 :: 91 :: (s ++ [93,41])) (40 :: 91 :: (s ++ [93,41])) = [97] from btw_app [97] _] at h4
  have h5:P (n + 3) (.pts (.bare false) (36 :: 97 :: 40 :: 91 :: (s ++ [93,41])) [] []) (.ok [varD [97] (.tuple [cmdD s])] [] []):=.p_varV h4 .p_nil
  exact .w_bare (s:=36 :: 97 :: 40 :: 91 :: (s ++ [93,41])) (by show (some 36:Option Nat) ≠ _;decide) (by show (some 36:Option Nat) ≠ _;decide) h5
theorem row_P:P (n + 5) (.ws false (rowT s) []) (.ok (rowW s) [] []):=by
  have sg:∀ (c d:Nat) (u:List Nat),isGap c = false→c ≠ 92→skipGaps (32 :: c :: d :: u) = c :: d :: u:=fun c d u h1 h2=>by simp only [skipGaps,h1,show isGap 32 = true from rfl,if_true,Bool.false_eq_true,if_false,h2,false_and]
  refine .s_next (w1_P _) (sg 120 _ _ (by decide) (by decide)) (by simp) (by decide) (by decide) (fun q=>by cases q) ?_
  refine .s_next (w2_P hB _) (sg 34 _ _ (by decide) (by decide)) (by simp) (by decide) (by decide) (fun q=>by cases q) ?_
  refine .s_next (w3_P hB _) (sg 36 _ _ (by decide) (by decide)) (by simp) (by decide) (by decide) (fun q=>by cases q) ?_
  exact .s_end (w4_P hB) rfl
end
theorem row_ok {n:Nat} {s:List Nat} (hB:∀ x,P n (.brl (skipCmd false (s ++ 93 :: x))) (.ok [] x x)) (hs:s.length ≤ 300):Φ (n + 14) "command_at" [Sx (rowT s),.int 0] = ret' (.tuple [.tuple (rowW s),.int 0,.int ((rowT s).length:Nat),.int ((rowT s).length:Nat)]):=by
  have sk:skipCmd false (rowT s) = rowT s:=by simp [rowT,skipCmd,isGap]
  have hw:WsAt false (skipCmd false (rowT s)):=by
    rw [sk]
    refine ⟨114,_,rfl,?_,by decide,by decide,fun q=>by cases q⟩
    show NoGap (114 :: 32 :: _)
    simp [NoGap,isGap]
  have h:=row_P hB
  rw [← sk] at h
  have:=fn_of_ws (sem h rfl) (t:=rowT s) (by unfold Small rowT;simp;lia) (List.suffix_refl _) hw
  rw [sk] at this
  rw [phi_command_at2 (by lia),← phi_command_at (by lia)]
  rw [pos_self] at this
  rw [this]
  simp only [encC,pos_self,pos_nil]
end Mine
end
section
set_option tactic.hygienic false
open PySem PySem.W PyProof.Rows PySem.Spec PySem.Calls PySem.Builtin PySem.Builtin.Str
namespace Mine
noncomputable def sst (s a l w:List Nat) (z:Int) (x5 x6 x7 x8 x9:Option PyData):Store:=⟨[some (Sx s),some (Sx a),some (Sx l),some (Sx w),some (.int z),x5,x6,x7,x8,x9],none⟩
noncomputable def sC:Oracle→Store→Res Bool:=fun Φ=>tCmp neD (dCall Φ "_law_closed" (aCons (dBin addD (dBin addD (getV 1) (getV 3)) (getV 2)) (aCons (getV 4) aNil))) (dTup (aCons (dTup (aCons (getV 0) (aCons (dBin addD (getV 4) (dOn lenD (getV 3))) aNil))) (aCons (dK .none) aNil)))
noncomputable def sA:Oracle→Store→Res Bool:=fun Φ=>tCmp neD (dCall Φ "_law_read" (aCons (getV 0) (aCons (dK (.int 0)) (aCons (dK (.bool false)) aNil)))) (dTup (aCons (dCall Φ "_law_alone" (aCons (getV 5) (aCons (getV 0) aNil))) (aCons (dK .none) aNil)))
noncomputable def sO:Oracle→Store→Res Bool:=fun Φ=>tOr (tCmp isnD (getV 6) (dK .none)) (tOr (sA Φ) tOr0)
noncomputable def sW:Store→Option Out:=(sAsg 7 (dBin addD (dBin addD (dBin addD (dBin addD (dBin addD (dBin addD (dK (.str "r x")) (getV 3)) (dK (.str "y \""))) (getV 3)) (dK (.str "\" $a("))) (getV 3)) (dK (.str ")"))))
noncomputable def sL:Store→Option Out:=(sAsg 9 (dLst (aCons (dTup (aCons (dTup (aCons (dK (.str "text")) (aCons (dK (.str "r")) aNil))) aNil)) (aCons (dTup (aCons (dTup (aCons (dK (.str "text")) (aCons (dK (.str "x")) aNil))) (aCons (getV 8) (aCons (dTup (aCons (dK (.str "text")) (aCons (dK (.str "y")) aNil))) aNil)))) (aCons (dTup (aCons (getV 8) aNil)) (aCons (dTup (aCons (dTup (aCons (dK (.str "var")) (aCons (dK (.str "a")) (aCons (dTup (aCons (getV 8) aNil)) aNil)))) aNil)) aNil))))))
noncomputable def sE:Oracle→Store→Res PyData:=fun Φ=>(dCmp eqD (dCall Φ "command_at" (aCons (getV 7) (aCons (dK (.int 0)) aNil))) (dTup (aCons (dOn tupleF (dNew (nComp falseD (getV 9)))) (aCons (dK (.int 0)) (aCons (dOn lenD (getV 7)) (aCons (dOn lenD (getV 7)) aNil))))))
theorem script_den (Φ:Oracle):den_law_script_right Φ =
  sCons (sSwp [("whole",3),("first",4)] (dTup (aCons (dBin addD (dBin addD (dK (.str "[")) (getV 0)) (dK (.str "]"))) (aCons (dOn lenD (getV 1)) aNil))))
  (sCons (sIte (sC Φ) (sCons (sRet (dK (.bool false))) sNil) sNil)
  (sCons (sUnp [5,6] (dCall Φ "_law_read" (aCons (getV 3) (aCons (dK (.int 1)) (aCons (dK (.bool true)) aNil)))))
  (sCons (sIte (sO Φ) (sCons (sRet (dK (.bool false))) sNil) sNil)
  (sCons sW
  (sCons (sAsg 8 (dTup (aCons (dK (.str "cmd")) (aCons (getV 0) aNil))))
  (sCons sL (sCons (sRet (sE Φ)) sNil))))))):=rfl
section
variable {Ψ:Oracle} {s a l w T:List Nat} {z:Int}
theorem s_e1 (hs:s.length ≤ 300) (ha:Small a) (hz:z = a.length):sSwp [("whole",3),("first",4)] (dTup (aCons (dBin addD (dBin addD (dK (.str "[")) (getV 0)) (dK (.str "]"))) (aCons (dOn lenD (getV 1)) aNil))) ⟨[some (Sx s),some (Sx a),some (Sx l),none,none,none,none,none,none,none],none⟩ =
    some (sst s a l (91 :: (s ++ [93])) z none none none none none,.nxt):=by
  have a1:addD (Sx [91]) (Sx s) = some (Sx (91 :: s)):=addD_mk (by simp;lia)
  have a2:addD (Sx (91 :: s)) (Sx [93]) = some (Sx (91 :: (s ++ [93]))):=addD_mk (by simp;lia)
  have a3:=lenD_mk ha
  rw [← hz] at a3
  apply c_one;delta sst;simp! []
theorem s_e2 {z1 z2:Int} (h1:addD (Sx a) (Sx w) = some (Sx (a ++ w))) (h2:addD (Sx (a ++ w)) (Sx l) = some (Sx T)) (h3:lenD (Sx w) = some (.int z1)) (h4:Ψ "_law_closed" [Sx T,.int z] = ret' (.tuple [.tuple [Sx s,.int z2],.none])) (hz:z2 = z + z1) (ho:okc s) (x5 x6 x7 x8 x9:Option PyData) :
    sC Ψ (sst s a l w z x5 x6 x7 x8 x9) = ret' false:=by
  have ly:LyA 2 [.tuple [Sx s,.int z2],.none]:=by
    have q:=LyA.tup (show LyA 0 [Sx s,.int z2] from LyA.app (n:=0) (a:=[Sx s]) (ly_Sx ho) (b:=[.int z2]) (.one rfl (Nat.zero_le _)))
    exact .cons q.1 (by have:=q.2;lia) (.one rfl (Nat.zero_le _))
  have n1:=neD_self ly (by lia)
  subst hz
  delta sC sst;simp! only []
theorem s_e3 {L:PyData} (h:Ψ "_law_read" [Sx w,.int 1,.bool true] = ret' (.tuple [L,.none])):sUnp [5,6] (dCall Ψ "_law_read" (aCons (getV 3) (aCons (dK (.int 1)) (aCons (dK (.bool true)) aNil)))) (sst s a l w z none none none none none) = some (sst s a l w z (some L) (some .none) none none none,.nxt):=by
  apply c_one;delta sst;simp! []
theorem s_e4 {F L:PyData} {N:Nat} (h1:Ψ "_law_read" [Sx s,.int 0,.bool false] = ret' (.tuple [L,.none])) (h2:Ψ "_law_alone" [F,Sx s] = ret' L) (hl:LyA N [L,.none]) (hN:N ≤ 1900):sO Ψ (sst s a l w z (some F) (some .none) none none none) = ret' false:=by
  have n1:=neD_self hl hN
  have c1:tCmp isnD (getV 6) (dK .none) (sst s a l w z (some F) (some .none) none none none) = ret' false:=rfl
  have c2:sA Ψ (sst s a l w z (some F) (some .none) none none none) = ret' false:=by
    delta sA sst;simp! only []
  simp only [sO,tOr,tOr0,c1,c2,bnd_ret]
  rfl
theorem s_e5 (hs:s.length ≤ 300) {x5 x6:Option PyData}:sW (sst s a l (91 :: (s ++ [93])) z x5 x6 none none none) = some (sst s a l (91 :: (s ++ [93])) z x5 x6 (some (Sx (rowT s))) none none,.nxt):=by
  have a1:addD (Sx [114,32,120]) (Sx (91 :: (s ++ [93]))) = some (Sx (114 :: 32 :: 120 :: 91 :: (s ++ [93]))):=addD_mk (by simp;lia)
  have a2:addD (Sx (114 :: 32 :: 120 :: 91 :: (s ++ [93]))) (Sx [121,32,34]) = some (Sx (114 :: 32 :: 120 :: 91 :: (s ++ [93,121,32,34]))):=by rw [addD_mk (by simp;lia)];simp
  have a3:addD (Sx (114 :: 32 :: 120 :: 91 :: (s ++ [93,121,32,34]))) (Sx (91 :: (s ++ [93]))) = some (Sx (114 :: 32 :: 120 :: 91 :: (s ++ 93 :: 121 :: 32 :: 34 :: 91 :: (s ++ [93])))):=by rw [addD_mk (by simp;lia)];simp
  have a4:addD (Sx (114 :: 32 :: 120 :: 91 :: (s ++ 93 :: 121 :: 32 :: 34 :: 91 :: (s ++ [93])))) (Sx [34,32,36,97,40]) = some (Sx (114 :: 32 :: 120 :: 91 :: (s ++ 93 :: 121 :: 32 :: 34 :: 91 :: (s ++ [93,34,32,36,97,40])))):=by rw [addD_mk (by simp;lia)];simp
  have a5:addD (Sx (114 :: 32 :: 120 :: 91 :: (s ++ 93 :: 121 :: 32 :: 34 :: 91 :: (s ++ [93,34,32,36,97,40])))) (Sx (91 :: (s ++ [93]))) = some (Sx (114 :: 32 :: 120 :: 91 :: (s ++ 93 :: 121 :: 32 :: 34 :: 91 :: (s ++ 93 :: 34 :: 32 :: 36 :: 97 :: 40 :: 91 :: (s ++ [93]))))):=by rw [addD_mk (by simp;lia)];simp
  have a6:addD (Sx (114 :: 32 :: 120 :: 91 :: (s ++ 93 :: 121 :: 32 :: 34 :: 91 :: (s ++ 93 :: 34 :: 32 :: 36 :: 97 :: 40 :: 91 :: (s ++ [93]))))) (Sx [41]) = some (Sx (rowT s)):=by rw [addD_mk (by simp;lia)];simp [rowT]
  apply c_one;delta sW sst;simp! []
noncomputable def wLst (s:List Nat):PyData:=.list [.tuple [textD [114]],.tuple [textD [120],cmdD s,textD [121]],.tuple [cmdD s],.tuple [varD [97] (.tuple [cmdD s])]]
theorem s_e7 {x5 x6 x7:Option PyData}:sL (sst s a l w z x5 x6 x7 (some (cmdD s)) none) = some (sst s a l w z x5 x6 x7 (some (cmdD s)) (some (wLst s)),.nxt):=by
  have l1:∀ x y u v:PyData,listD [x,y,u,v] = ret' (.list [x,y,u,v]):=fun _ _ _ _=>rfl
  apply c_one;delta sL sst;simp! []
theorem s_e8 {N:Nat} {z3:Int} {x5 x6 x8:Option PyData} {r:List Nat} (h:Ψ "command_at" [Sx r,.int 0] = ret' (.tuple [.tuple (rowW s),.int 0,.int z3,.int z3])) (hl:lenD (Sx r) = some (.int z3)) (ly:LyA N [.tuple (rowW s),.int 0,.int z3,.int z3]) (hN:N ≤ 1900) :
    sE Ψ (sst s a l w z x5 x6 (some (Sx r)) x8 (some (wLst s))) = ret' (.bool true):=by
  have e1:=eqD_self ly hN
  have c1:compD falseD (wLst s) = some (rowW s):=by
    have hh:lfs (rowW s) = true:=by simp [rowW]
    have hm:mapO falseD [.tuple [textD [114]],.tuple [textD [120],cmdD s,textD [121]],.tuple [cmdD s],.tuple [varD [97] (.tuple [cmdD s])]] = some (rowW s):=rfl
    simp only [compD,wLst,listOf,obind_some',hm,hh]
    rw [if_pos (by simp)]
    rfl
  have c2:tupleF (.list (rowW s)) = some (.tuple (rowW s)):=rfl
  delta sE sst;simp! only []
end
end Mine
end
section
set_option tactic.hygienic false
open PySem PySem.W PyProof.Rows PySem.Spec PySem.Calls PySem.Builtin PySem.Builtin.Str
namespace Mine
theorem sC_app (f g:Store→Option Out) (σ:Store):sCons f g σ = sbind (f σ) g:=rfl
theorem sI_app (c:Store→Res Bool) (f g:Store→Option Out) (σ:Store):sIte c f g σ = ebind (c σ) σ fun x=>if x then f σ else g σ:=rfl
theorem sN_app (σ:Store):sNil σ = some (σ,.nxt):=rfl
theorem sR_app (f:Store→Res PyData) (σ:Store):sRet f σ = ebind (f (frz σ)) (frz σ) fun d=>some (σ,.ret d):=rfl
theorem LyA.lst {n:Nat} {l:List PyData} (h:LyA n l):(PyData.list l).canLay0 = true∧(PyData.list l).depth ≤ n + 1:=⟨by simp only [PyData.canLay0];exact h.1,by simp only [PyData.depth];have:=h.2;lia⟩
theorem cm_ly (t:List Nat) {N:Nat}:∀ L:List Cmd,(∀ c ∈ L,CmdOk N c)→LyA (N + 2) (L.map (cmdV t))
  | [],_=>.nil _
  | c :: L,h=>by
    have h1:=(h c (List.mem_cons_self ..)).1
    have h2:=cm_ly t L fun c hc=>h c (List.mem_cons_of_mem _ hc)
    have h3:=LyA.tup (LyA.app (a:=[.tuple c.1]) (.one h1.tup.1 h1.tup.2) (b:=[.int (pos t c.2.1),.int (pos t c.2.2.1),.int (pos t c.2.2.2)]) ⟨rfl,by show Nat.max _ _ ≤ _;simp [PyData.depthAll,PyData.depth]⟩)
    exact .cons h3.1 h3.2 h2
theorem row_ly {s:List Nat} (ho:okc s) (z:Int):LyA 10 [.tuple (rowW s),.int 0,.int z,.int z]:=by
  have o1:∀ c:Nat,c < 1114112→okc [c]:=fun c h=>okc_cons h okc_nil
  have t1:∀ c:Nat,c < 1114112→LyA 1 [textD [c]]:=fun c h=>.one (ly_text (o1 c h)).1 (ly_text (o1 c h)).2
  have m1:LyA 1 [cmdD s]:=.one (ly_cmd ho).1 (ly_cmd ho).2
  have i1:=m1.tup
  have v1:=ly_var (o1 97 (by lia)) i1.1 i1.2
  have w1:=ly_word (e:=false) (t1 114 (by lia))
  have w2:=ly_word (e:=false) (LyA.app (LyA.app (t1 120 (by lia)) m1) (t1 121 (by lia)))
  have w3:=ly_word (e:=false) m1
  have w4:=ly_word (e:=false) (LyA.one v1.1 v1.2)
  have q:LyA 6 (rowW s):=.cons w1.1 (by lia) (.cons w2.1 (by have:=w2.2;exact Nat.le_trans this (by lia)) (.cons w3.1 (by lia) (.cons w4.1 (by lia) (.nil _))))
  exact .cons q.tup.1 (by have:=q.tup.2;lia) ⟨rfl,by simp [PyData.depthAll,PyData.depth]⟩
theorem script_ok {n:Nat} {s a l:List Nat} (hB:∀ x,P n (.brl (skipCmd false (s ++ 93 :: x))) (.ok [] x x)) (ho:okc s) (hs:s.length ≤ 300) (ha:a.length ≤ 300) (hl:l.length ≤ 300) (hn:n ≤ 1500) :
    Φ (n + 15) "_law_script_right" [Sx s,Sx a,Sx l] = ret' (.bool true):=by
  rw [phi_law_script_right (by lia),script_den]
  have hsm:Small s:=by unfold Small;lia
  have ham:Small a:=by unfold Small;lia
  have hwm:Small (91 :: (s ++ [93])):=by unfold Small;simp;lia
  have hTm:Small (a ++ 91 :: (s ++ 93 :: l)):=by unfold Small;simp;lia
  obtain ⟨L,L',c1,c2,al⟩:=alone_of_brl ((hB []).le (by lia:n ≤ n + 5)) (n + 4) s s rfl rfl rfl (List.suffix_refl _)
  have k1:=c1.ok (okc_app ho (okc_cons (by lia) okc_nil)) (by simp;lia)
  have k2:=c2.ok ho (by lia)
  have hcl:=closed_ok ((hB l).le (by lia:n ≤ n + 4)) hTm (List.suffix_append a _)
  have hrd:=read_ok c1 hwm (List.suffix_cons 91 _)
  have hrd2:=read_ok c2 hsm (List.suffix_refl _)
  have hal:=alone_ok (n:=n + 10) al k1 hsm (by have:=c1.len;simp at this;lia)
  have hrow:=row_ok hB hs
  have hlr:=lenD_mk (t:=rowT s) (by unfold Small rowT;simp;lia)
  have hlw:=lenD_mk hwm
  have p1:pos (91 :: (s ++ [93])) (s ++ [93]) = 1:=by unfold pos;simp;lia
  rw [p1] at hrd
  rw [pos_self] at hrd2
  have ly1:LyA 1800 [.list (L'.map (cmdV s)),.none]:=by
    have q:=(cm_ly s L' k2).lst
    exact .cons q.1 (by have:=q.2;lia) (.one rfl (Nat.zero_le _))
  simp only [cloV,btw_app] at hcl
  have pa:pos (a ++ 91 :: (s ++ 93 :: l)) (91 :: (s ++ 93 :: l)) = a.length:=by unfold pos;simp
  have pb:pos (a ++ 91 :: (s ++ 93 :: l)) l = (a.length:Int) + (91 :: (s ++ [93])).length:=by unfold pos;simp;lia
  rw [pa] at hcl
  have e1:=s_e1 (s:=s) (a:=a) (l:=l) hs ham rfl
  have b1:addD (Sx a) (Sx (91 :: (s ++ [93]))) = some (Sx (a ++ 91 :: (s ++ [93]))):=addD_mk (by simp;lia)
  have b2:addD (Sx (a ++ 91 :: (s ++ [93]))) (Sx l) = some (Sx (a ++ 91 :: (s ++ 93 :: l))):=by rw [addD_mk (by simp;lia)];simp
  have e2:=s_e2 (Ψ:=Φ (n + 14)) b1 b2 hlw hcl pb ho none none none none none
  have e3:=s_e3 (Ψ:=Φ (n + 14)) (s:=s) (a:=a) (l:=l) (z:=a.length) hrd
  have e4:=s_e4 (Ψ:=Φ (n + 14)) (s:=s) (a:=a) (l:=l) (w:=91 :: (s ++ [93])) (z:=a.length) hrd2 hal ly1 (by lia)
  have e5:=s_e5 (a:=a) (l:=l) (z:=a.length) hs (x5:=some (.list (L.map (cmdV (91 :: (s ++ [93])))))) (x6:=some .none)
  have e6:sAsg 8 (dTup (aCons (dK (.str "cmd")) (aCons (getV 0) aNil))) (sst s a l (91 :: (s ++ [93])) a.length (some (.list (L.map (cmdV (91 :: (s ++ [93])))))) (some .none) (some (Sx (rowT s))) none none) =
      some (sst s a l (91 :: (s ++ [93])) a.length (some (.list (L.map (cmdV (91 :: (s ++ [93])))))) (some .none) (some (Sx (rowT s))) (some (cmdD s)) none,.nxt):=by
    apply c_one;delta sst;simp! []
  have e7:=s_e7 (s:=s) (a:=a) (l:=l) (w:=91 :: (s ++ [93])) (z:=a.length) (x5:=some (.list (L.map (cmdV (91 :: (s ++ [93])))))) (x6:=some .none) (x7:=some (Sx (rowT s)))
  have e8:=s_e8 (Ψ:=Φ (n + 14)) (s:=s) (a:=a) (l:=l) (w:=91 :: (s ++ [93])) (z:=a.length) (x5:=some (.list (L.map (cmdV (91 :: (s ++ [93])))))) (x6:=some .none) (x8:=some (cmdD s)) hrow hlr (row_ly ho _) (by lia)
  rw [sC_app,e1,sbind_nxt,sC_app,sI_app,e2,ebind_ret,if_neg (by decide),sN_app,sbind_nxt,sC_app,e3,sbind_nxt,sC_app,sI_app,e4,ebind_ret,if_neg (by decide),sN_app,sbind_nxt,sC_app,e5,sbind_nxt,sC_app,e6,sbind_nxt,sC_app,e7,sbind_nxt,sC_app,sR_app]
  have fz:frz (sst s a l (91 :: (s ++ [93])) a.length (some (.list (L.map (cmdV (91 :: (s ++ [93])))))) (some .none) (some (Sx (rowT s))) (some (cmdD s)) (some (wLst s))) = (sst s a l (91 :: (s ++ [93])) a.length (some (.list (L.map (cmdV (91 :: (s ++ [93])))))) (some .none) (some (Sx (rowT s))) (some (cmdD s)) (some (wLst s))):=rfl
  rw [fz,e8]
  rfl
end Mine
end
section
set_option tactic.hygienic false
open PySem PySem.W PyProof.Rows PySem.Spec PySem.Calls PySem.Builtin PySem.Builtin.Str
namespace Mine
theorem ms_take (t:List Nat) (k:Nat):ms (t.take k) ≤ ms t:=by
  have:(t.take k).countP isO ≤ t.countP isO:=(List.take_sublist k t).countP_le
  unfold ms;lia
theorem brl_split {n:Nat} {t m r:List Nat} {v:List PyData} (h:P n (.brl (skipCmd false t)) (.ok v m r)):∃ s,t = s ++ 93 :: r:=by
  obtain ⟨p,hp⟩:=(brl_93 h rfl rfl).trans (skipCmd_suf false t)
  exact ⟨p,hp.symm⟩
noncomputable def cloI:PyData→Int
  | .tuple [.tuple [_,.int i],_]=>i
  | _=>0
theorem cut_case {n:Nat} {t:List Nat} {i:Nat} (hi:t[i]? = some 93) (hn:ms t + 3 ≤ n):∃ R',P n (.brl (skipCmd false (t.take (i + 1)))) R' ∧
    (∀ v m r',R' = .ok v m r'→∃ x:List Nat,t.length ≤ x.length + i + 1∧P n (.brl (skipCmd false t)) (.ok [] x x))∧(∀ τ r',R' = .err τ r'→isX τ→∃ r2,P n (.brl (skipCmd false t)) (.err τ r2)):=by
  obtain ⟨R',h⟩:=brl_all (t.take (i + 1)) (n:=n) (by have:=ms_take t (i + 1);lia)
  have hlt:i < t.length:=(List.getElem?_eq_some_iff.mp hi).1
  have hc:t.take (i + 1) = t.take i ++ [93]:=by
    rw [List.take_add_one,hi];rfl
  have e:t.take (i + 1) ++ t.drop (i + 1) = t:=List.take_append_drop _ _
  refine ⟨R',h,fun v m r' q=>?_,fun τ r' q hx=>?_⟩
  · subst q
    obtain ⟨s',hs'⟩:=brl_split h
    have h':=h
    rw [hs'] at h'
    obtain ⟨_,_,hB⟩:=brl_put h'
    refine ⟨r' ++ t.drop (i + 1),by simp;lia,?_⟩
    have:=hB (r' ++ t.drop (i + 1))
    have e2:s' ++ 93 :: (r' ++ t.drop (i + 1)) = t:=by
      have:(s' ++ 93 :: r') ++ t.drop (i + 1) = t:=by rw [← hs'];exact e
      simpa using this
    rw [e2] at this
    exact this
  · subst q
    obtain ⟨c0,u,rfl,_⟩:=x_rest h trivial rfl hx
    have hpos:([]:List Nat).length < (skipCmd false (t.take (i + 1) ++ [])).length:=by
      rw [List.append_nil]
      have:=h.restLe
      simp only [Rs.rest,Call.tx,List.length_cons] at this
      simp only [List.length_nil]
      lia
    have of93:∀ y,Cm (t.take (i + 1)) y:=fun y=>by rw [hc];exact .of93 _ _
    obtain ⟨ρ,_,hρ,k0,k1⟩:=skipCmd_ag (s0:=[]) (s1:=t.drop (i + 1)) false (t.take (i + 1)) hpos (.nil _) (of93 _)
    rw [List.append_nil,List.append_nil] at k0
    rw [k0] at h
    obtain ⟨ρ',_,_,p⟩:=ag_err (agree h (c:=ρ) (s0:=[]) (s1:=t.drop (i + 1)) (List.append_nil ρ).symm (.nil _) ((of93 _).suf hρ) ⟨hx,by simp⟩)
    refine ⟨ρ' ++ t.drop (i + 1),?_⟩
    have p:P n (.brl (ρ ++ t.drop (i + 1))) (.err τ (ρ' ++ t.drop (i + 1))):=p
    rw [← k1,e] at p
    exact p
theorem none_of_ok {n:Nat} {t s r:List Nat} (ht:t.length ≤ 900) (hn:ms t + 3 ≤ n) (h:P n (.brl (skipCmd false t)) (.ok [] r r)) (e:t = s ++ 93 :: r):NoneE n t s.length false:=fun i hi h93=>by
  obtain ⟨R',h',a,b⟩:=cut_case h93 hn
  cases R' with
  | ok v m r' =>
    exfalso
    obtain ⟨x,hx,p⟩:=a _ _ _ rfl
    have:=brl_det (by lia) h p
    have e2:pos (91 :: t) r = pos (91 :: t) x:=by
      have:cloI (cloV (91 :: t) t (.ok [] r r)) = cloI (cloV (91 :: t) t (.ok [] x x)):=congrArg cloI this
      exact this
    unfold pos at e2
    have e3:=congrArg List.length e
    simp at e2 e3
    lia
  | err τ r' =>
    refine ⟨τ,r',h',fun _ hx=>?_⟩
    obtain ⟨r2,p⟩:=b τ r' rfl hx
    exact cloV_ne (brl_det (by lia) p h)
theorem none_of_err {n:Nat} {t r:List Nat} {τ:Str} {w:Bool} (ht:t.length ≤ 900) (hn:ms t + 3 ≤ n) (h:P n (.brl (skipCmd false t)) (.err τ r)) (hw:isX τ→w = true):NoneE n t t.length w:=fun i hi h93=>by
  obtain ⟨R',h',a,b⟩:=cut_case h93 hn
  cases R' with
  | ok v m r' =>
    exfalso
    obtain ⟨x,hx,p⟩:=a _ _ _ rfl
    exact cloV_ne (brl_det (by lia) h p)
  | err τ' r' =>
    refine ⟨τ',r',h',fun hf hx=>?_⟩
    obtain ⟨r2,p⟩:=b τ' r' rfl hx
    have:=cloV_err (brl_det (by lia) p h)
    subst this
    rw [hw hx] at hf
    cases hf
theorem wrong_of_err {n:Nat} {t r:List Nat} {τ:Str} (h:P n (.brl (skipCmd false t)) (.err τ r)) (hx:isX τ) (l:List Nat):∃ r2,P n (.brl (skipCmd false (t ++ 59 :: l))) (.err τ r2):=by
  obtain ⟨c0,u,rfl,_⟩:=x_rest h trivial rfl hx
  have hpos:([]:List Nat).length < (skipCmd false (t ++ [])).length:=by
    rw [List.append_nil]
    have:=h.restLe
    simp only [Rs.rest,Call.tx,List.length_cons] at this
    simp only [List.length_nil]
    lia
  obtain ⟨ρ,_,hρ,k0,k1⟩:=skipCmd_ag (s0:=[]) (s1:=59 :: l) false t hpos (.nil _) (.semi _ _)
  rw [List.append_nil,List.append_nil] at k0
  rw [k0] at h
  obtain ⟨ρ',_,_,p⟩:=ag_err (agree h (c:=ρ) (s0:=[]) (s1:=59 :: l) (List.append_nil ρ).symm (.nil _) (.semi _ _) ⟨hx,by simp⟩)
  refine ⟨ρ' ++ 59 :: l,?_⟩
  have p:P n (.brl (ρ ++ 59 :: l)) (.err τ (ρ' ++ 59 :: l)):=p
  rw [← k1] at p
  exact p
end Mine
end
section
set_option tactic.hygienic false
open PySem PySem.W PyProof.Rows PySem.Spec PySem.Calls PySem.Builtin PySem.Builtin.Str
namespace Mine
noncomputable def xst (t a l:List Nat) (x3 x4 x5 x6 x7 x8:Option PyData):Store:=⟨[some (Sx t),some (Sx a),some (Sx l),x3,x4,x5,x6,x7,x8],none⟩
noncomputable def xA:Store→Res Bool:=tCmp isD (getV 4) (dK .none)
noncomputable def xB:Store→Res Bool:=(tOr (tCmp neD (dCut (getV 0) pNo (pOf (dBin addD (dOn lenD (getV 5)) (dK (.int 1))))) (dBin addD (getV 5) (dK (.str "]")))) (tOr (tCmp neD (getV 6) (dBin addD (dOn lenD (getV 5)) (dK (.int 2)))) tOr0))
noncomputable def xR1:Oracle→Store→Res PyData:=fun Φ=>(dAnd2 (dCall Φ "_law_none_earlier" (aCons (getV 0) (aCons (dOn lenD (getV 5)) (aCons (dK (.bool false)) aNil)))) (dCall Φ "_law_script_right" (aCons (getV 5) (aCons (getV 1) (aCons (getV 2) aNil)))))
noncomputable def xS7:Oracle→Store→Option Out:=fun Φ=>(sAsg 7 (dIdx (dCall Φ "_law_read" (aCons (dBin addD (dK (.str "[")) (getV 0)) (aCons (dK (.int 1)) (aCons (dK (.bool true)) aNil)))) (dK (.int 1))))
noncomputable def xI:Store→Res PyData:=(dIf (tCmp isnD (getV 7) (dK .none)) (getV 7) (dTup (aCons (dK (.int 1)) (aCons (dK (.str "missing close-bracket")) (aCons (dTup (aCons (dK (.str "NONE")) aNil)) aNil)))))
noncomputable def xC:Store→Res Bool:=(tCmp neD (getV 4) xI)
theorem xC_den (σ:Store):xC σ = bnd (getV 4 σ) fun x=>bnd (xI σ) fun y=>lft (neD x y):=rfl
noncomputable def xS8:Store→Option Out:=(sAsg 8 (dCmp neD (dCut (dIdx (getV 4) (dK (.int 1))) pNo (pOf (dK (.int 7)))) (dK (.str "missing"))))
noncomputable def xD0:Oracle→Store→Res Bool:=fun Φ=>(tCmp neD (dCall Φ "_law_closed" (aCons (dBin addD (dBin addD (dBin addD (dK (.str "[")) (getV 0)) (dK (.str ";"))) (getV 2)) (aCons (dK (.int 0)) aNil))) (dTup (aCons (dTup aNil) (aCons (getV 4) aNil))))
noncomputable def xD:Oracle→Store→Res Bool:=fun Φ=>(tAnd (tPlain (getV 8)) (tAnd (xD0 Φ) tAnd0))
noncomputable def xR2:Oracle→Store→Res PyData:=fun Φ=>(dAnd2 (dCall Φ "_law_none_earlier" (aCons (getV 0) (aCons (dOn lenD (getV 0)) (aCons (getV 8) aNil)))) (dCall Φ "_law_closers_right" (aCons (getV 0) aNil)))
noncomputable def retF:Store→Option Out:=sCons (sRet (dK (.bool false))) sNil
theorem text_den (Φ:Oracle):den_law_text_right Φ =
  sCons (sUnp [3,4] (dCall Φ "_law_closed" (aCons (dBin addD (dK (.str "[")) (getV 0)) (aCons (dK (.int 0)) aNil))))
  (sCons (sIte xA (sCons (sUnp [5,6] (getV 3)) (sCons (sIte xB retF sNil) (sCons (sRet (xR1 Φ)) sNil))) sNil)
  (sCons (xS7 Φ) (sCons (sIte xC retF sNil) (sCons xS8 (sCons (sIte (xD Φ) retF sNil) (sCons (sRet (xR2 Φ)) sNil)))))):=rfl
theorem faultD_ly {τ:Str} (h:IsErr τ) (_:Nat):(faultD τ).canLay0 = true∧(faultD τ).depth ≤ 2:=by
  have o:=(err_small h).2
  have e:faultD τ = .tuple [.int 1,Sx (codes τ),.tuple [Sx [78,79,78,69]]]:=by rw [← str_codes];rfl
  rw [e]
  have n1:LyA 0 [Sx [78,79,78,69]]:=ly_Sx (by unfold okc;decide)
  exact LyA.tup (LyA.app (n:=1) (a:=[.int 1]) (.one rfl (Nat.zero_le _)) (LyA.app (a:=[Sx (codes τ)]) (ly_Sx o) (.one n1.tup.1 n1.tup.2)))
theorem faultD_mBr:PyData.tuple [.int 1,Sx [109,105,115,115,105,110,103,32,99,108,111,115,101,45,98,114,97,99,107,101,116],.tuple [Sx [78,79,78,69]]] = faultD mBr:=rfl
theorem neD_fault {τ:Str} (h:IsErr τ):neD (faultD τ) (faultD τ) = some false:=by
  have h1:=faultD_ly h 0
  have e:faultD τ = .tuple [.int 1,Sx (codes τ),.tuple [Sx [78,79,78,69]]]:=by rw [← str_codes];rfl
  have n1:LyA 2 [.int 1,Sx (codes τ),.tuple [Sx [78,79,78,69]]]:=by
    have n1:LyA 0 [Sx [78,79,78,69]]:=ly_Sx (by unfold okc;decide)
    exact LyA.app (n:=2) (a:=[.int 1]) (.one rfl (Nat.zero_le _)) (LyA.app (a:=[Sx (codes τ)]) (ly_Sx (err_small h).2) (.one n1.tup.1 (by have:=n1.tup.2;lia)))
  rw [e]
  exact neD_self n1 (by lia)
section
variable {Ψ:Oracle} {t a l:List Nat}
theorem x_e1 {g f:PyData} (ht:t.length ≤ 300) (h:Ψ "_law_closed" [Sx (91 :: t),.int 0] = ret' (.tuple [g,f])):sUnp [3,4] (dCall Ψ "_law_closed" (aCons (dBin addD (dK (.str "[")) (getV 0)) (aCons (dK (.int 0)) aNil))) ⟨[some (Sx t),some (Sx a),some (Sx l),none,none,none,none,none,none],none⟩ = some (xst t a l (some g) (some f) none none none none,.nxt):=by
  have a1:addD (Sx [91]) (Sx t) = some (Sx (91 :: t)):=addD_mk (by simp;lia)
  apply c_one;delta xst;simp! []
theorem x_B {s r:List Nat} {x3 x4:Option PyData} (ht:t.length ≤ 300) (e:t = s ++ 93 :: r) {z z2:Int} (hz:z = s.length) (hz2:z2 = z + 2):xB (xst t a l x3 x4 (some (Sx s)) (some (.int z2)) none none) = ret' false:=by
  have hsl:s.length ≤ 300:=by rw [e] at ht;simp at ht;lia
  have l1:=lenD_mk (t:=s) (by unfold Small;lia)
  rw [← hz] at l1
  have c1:=cutTo (t:=t) (by unfold Small;lia) (b:=z + 1) (by lia)
  have e1:t.take (z + 1).toNat = s ++ [93]:=by
    have:(z + 1).toNat = s.length + 1:=by lia
    rw [this,e]
    simp only [List.take_append,List.take_of_length_le (show s.length ≤ s.length + 1 by lia)]
    simp
  rw [e1] at c1
  have a1:addD (Sx s) (Sx [93]) = some (Sx (s ++ [93])):=addD_mk (by simp;lia)
  have n1:neD (.int (z + 2)) (.int (z + 2)) = some false:=by unfold neD;rw [eqD_int];simp
  subst hz2
  delta xB xst;simp! only []
theorem x_R1 {s:List Nat} {x3 x4 x6:Option PyData} {z:Int} (hl:lenD (Sx s) = some (.int z)) (h1:Ψ "_law_none_earlier" [Sx t,.int z,.bool false] = ret' (.bool true)) (h2:Ψ "_law_script_right" [Sx s,Sx a,Sx l] = ret' (.bool true)) :
    xR1 Ψ (xst t a l x3 x4 (some (Sx s)) x6 none none) = ret' (.bool true):=by
  delta xR1 xst;simp! only []
theorem x_S7 {L f:PyData} {x3 x4:Option PyData} (ht:t.length ≤ 300) (h:Ψ "_law_read" [Sx (91 :: t),.int 1,.bool true] = ret' (.tuple [L,f])):xS7 Ψ (xst t a l x3 x4 none none none none) = some (xst t a l x3 x4 none none (some f) none,.nxt):=by
  have a1:addD (Sx [91]) (Sx t) = some (Sx (91 :: t)):=addD_mk (by simp;lia)
  have i1:=itT1 L f []
  apply c_one;delta xS7 xst;simp! []
theorem x_C {τ:Str} (hE:IsErr τ) {f:Option Str} (hf:f = some τ ∨ (f = none∧τ = mBr)) {x3:Option PyData}:xC (xst t a l x3 (some (faultD τ)) none none (some (faultO f)) none) = ret' false:=by
  have n1:=neD_fault hE
  rcases hf with rfl | ⟨rfl,rfl⟩
  · have c1:tCmp isnD (getV 7) (dK .none) (xst t a l x3 (some (faultD τ)) none none (some (faultD τ)) none) = ret' true:=rfl
    have c2:xI (xst t a l x3 (some (faultD τ)) none none (some (faultD τ)) none) = ret' (faultD τ):=by
      simp only [xI,dIf,c1,bnd_ret,if_true]
      rfl
    have c3:getV 4 (xst t a l x3 (some (faultD τ)) none none (some (faultD τ)) none) = ret' (faultD τ):=rfl
    rw [show faultO (some τ) = faultD τ from rfl,xC_den,c3,bnd_ret,c2,bnd_ret,n1]
    rfl
  · have c1:tCmp isnD (getV 7) (dK .none) (xst t a l x3 (some (faultD mBr)) none none (some .none) none) = ret' false:=rfl
    have c2:xI (xst t a l x3 (some (faultD mBr)) none none (some .none) none) = ret' (faultD mBr):=by
      simp only [xI,dIf,c1,bnd_ret]
      rfl
    have c3:getV 4 (xst t a l x3 (some (faultD mBr)) none none (some .none) none) = ret' (faultD mBr):=rfl
    rw [show faultO none = .none from rfl,xC_den,c3,bnd_ret,c2,bnd_ret,n1]
    rfl
theorem x_S8 {τ:Str} (hE:IsErr τ) {x3 x7:Option PyData}:xS8 (xst t a l x3 (some (faultD τ)) none none x7 none) = some (xst t a l x3 (some (faultD τ)) none none x7 (some (.bool (!((codes τ).take 7 == ms7)))),.nxt):=by
  have f1:=fault1 τ
  have f2:=cut7 (err_small hE).1
  have n7:neD (Sx ((codes τ).take 7)) (.str "missing") = some (!((codes τ).take 7 == ms7)):=neD_mk _ ms7
  apply c_one;delta xS8 xst;simp! []
theorem x_D {τ:Str} (hE:IsErr τ) {x3 x7:Option PyData} {b:Bool} (ht:t.length ≤ 300) (hl:l.length ≤ 300) (h:b = true→Ψ "_law_closed" [Sx (91 :: (t ++ 59 :: l)),.int 0] = ret' (.tuple [.tuple [],faultD τ])) :
    xD Ψ (xst t a l x3 (some (faultD τ)) none none x7 (some (.bool b))) = ret' false:=by
  have c0:tPlain (getV 8) (xst t a l x3 (some (faultD τ)) none none x7 (some (.bool b))) = ret' b:=rfl
  cases b with
  | false=>simp only [xD,tAnd,c0,bnd_ret];rfl
  | true =>
    have a1:addD (Sx [91]) (Sx t) = some (Sx (91 :: t)):=addD_mk (by simp;lia)
    have a2:addD (Sx (91 :: t)) (Sx [59]) = some (Sx (91 :: (t ++ [59]))):=addD_mk (by simp;lia)
    have a3:addD (Sx (91 :: (t ++ [59]))) (Sx l) = some (Sx (91 :: (t ++ 59 :: l))):=by rw [addD_mk (by simp;lia)];simp
    have n1:neD (.tuple [.tuple [],faultD τ]) (.tuple [.tuple [],faultD τ]) = some false:=by
      have q:=faultD_ly hE 0
      have:LyA 2 [.tuple [],faultD τ]:=.cons rfl (by show (1:Nat) ≤ 2;lia) (.one q.1 q.2)
      exact neD_self this (by lia)
    have h':=h rfl
    have c1:xD0 Ψ (xst t a l x3 (some (faultD τ)) none none x7 (some (.bool true))) = ret' false:=by
      delta xD0 xst;simp! only []
    simp only [xD,tAnd,tAnd0,c0,c1,bnd_ret]
    rfl
theorem x_R2 {x3 x4 x7:Option PyData} {b:Bool} {z:Int} (hl:lenD (Sx t) = some (.int z)) (h1:Ψ "_law_none_earlier" [Sx t,.int z,.bool b] = ret' (.bool true)) (h2:Ψ "_law_closers_right" [Sx t] = ret' (.bool true)) :
    xR2 Ψ (xst t a l x3 x4 none none x7 (some (.bool b))) = ret' (.bool true):=by
  delta xR2 xst;simp! only []
end
theorem text_ok {n:Nat} {t a l:List Nat} (ot:okc t) (ht:t.length ≤ 300) (ha:a.length ≤ 300) (hl:l.length ≤ 300) (hn:ms t + 3 ≤ n) (hn2:n ≤ 1400):Φ (n + 17) "_law_text_right" [Sx t,Sx a,Sx l] = ret' (.bool true):=by
  rw [phi_law_text_right (by lia),text_den]
  have htm:Small t:=by unfold Small;lia
  have htm1:Small (91 :: t):=by unfold Small;simp;lia
  obtain ⟨R,h⟩:=brl_all t hn
  have hcl:=closed_ok (h.le (by lia:n ≤ n + 6)) htm1 (List.suffix_refl _)
  rw [pos_self] at hcl
  cases R with
  | ok v m r =>
    obtain ⟨s,e⟩:=brl_split h
    have h':=h
    rw [e] at h'
    obtain ⟨rfl,rfl,hB⟩:=brl_put h'
    have hsl:s.length ≤ 300:=by rw [e] at ht;simp at ht;lia
    have os:okc s:=fun c hc=>ot c (by rw [e];exact List.mem_append_left _ hc)
    have hno:=none_ok (n:=n + 5) (by lia:t.length ≤ 900) (by rw [e];simp) (none_of_ok (n:=n + 5) (by lia) (by lia) (h.le (by lia)) e)
    have hsc:=script_ok (n:=n + 1) (s:=s) (a:=a) (l:=l) (fun x=>(hB x).le (by lia)) os hsl ha hl (by lia)
    have hls:=lenD_mk (t:=s) (by unfold Small;lia)
    have ebt:btw t (93 :: m) = s:=by rw [e,btw_app]
    simp only [cloV,ebt] at hcl
    have ep:pos (91 :: t) m = (s.length:Int) + 2:=by rw [e];unfold pos;simp;lia
    rw [ep] at hcl
    generalize hz:((s.length:Nat):Int) = z at hcl hno hls
    have e1:=x_e1 (a:=a) (l:=l) ht hcl
    have cA:xA (xst t a l (some (.tuple [Sx s,.int (z + 2)])) (some .none) none none none none) = ret' true:=rfl
    have e2:sUnp [5,6] (getV 3) (xst t a l (some (.tuple [Sx s,.int (z + 2)])) (some .none) none none none none) = some (xst t a l (some (.tuple [Sx s,.int (z + 2)])) (some .none) (some (Sx s)) (some (.int (z + 2))) none none,.nxt):=rfl
    have cB:=x_B (a:=a) (l:=l) (x3:=some (.tuple [Sx s,.int (z + 2)])) (x4:=some .none) ht e hz.symm rfl
    have cR:=x_R1 (x3:=some (.tuple [Sx s,.int (z + 2)])) (x4:=some .none) (x6:=some (.int (z + 2))) hls hno hsc
    have fz:frz (xst t a l (some (.tuple [Sx s,.int (z + 2)])) (some .none) (some (Sx s)) (some (.int (z + 2))) none none) = (xst t a l (some (.tuple [Sx s,.int (z + 2)])) (some .none) (some (Sx s)) (some (.int (z + 2))) none none):=rfl
    rw [sC_app,e1,sbind_nxt,sC_app,sI_app,cA,ebind_ret,if_pos rfl,sC_app,e2,sbind_nxt,sC_app,sI_app,cB,ebind_ret,if_neg (by decide),sN_app,sbind_nxt,sC_app,sR_app,fz,cR]
    rfl
  | err τ r =>
    have hE:=h.isErr rfl
    obtain ⟨L,f,c1,_,hf⟩:=cs_of_brl (h.le (by lia:n ≤ n + 7)) (n + 6) t rfl rfl
    have hrd:=read_ok c1 htm1 (List.suffix_cons 91 _)
    have p1:pos (91 :: t) t = 1:=by unfold pos;simp;lia
    rw [p1] at hrd
    have hf:=hf τ r rfl
    have hkl:=closers_ok (n:=n + 5) (by lia:t.length ≤ 400) ot (by lia)
    have hw:isX τ→(!((codes τ).take 7 == ms7)) = true:=fun hx=>by
      have:=(isX_iff hE).mp hx
      simpa using this
    have hw2:(!((codes τ).take 7 == ms7)) = true→isX τ:=fun hx=>(isX_iff hE).mpr (by simpa using hx)
    have hno:=none_ok (n:=n + 5) (by lia:t.length ≤ 900) (Nat.le_refl _) (none_of_err (n:=n + 5) (by lia) (by lia) (h.le (by lia)) hw)
    have hlt:=lenD_mk htm
    have hD:(!((codes τ).take 7 == ms7)) = true→Φ (n + 16) "_law_closed" [Sx (91 :: (t ++ 59 :: l)),.int 0] = ret' (.tuple [.tuple [],faultD τ]):=fun q=>by
      obtain ⟨r2,p⟩:=wrong_of_err h (hw2 q) l
      have:=closed_ok (p.le (by lia:n ≤ n + 6)) (t:=91 :: (t ++ 59 :: l)) (by unfold Small;simp;lia) (List.suffix_refl _)
      rw [pos_self] at this
      exact this
    generalize hb:(!((codes τ).take 7 == ms7)) = b at hno hD
    have e1:=x_e1 (a:=a) (l:=l) ht hcl
    have cA:xA (xst t a l (some (.tuple [])) (some (faultD τ)) none none none none) = ret' false:=rfl
    have e7:=x_S7 (a:=a) (l:=l) (x3:=some (.tuple [])) (x4:=some (faultD τ)) ht hrd
    have cC:=x_C (t:=t) (a:=a) (l:=l) hE hf (x3:=some (.tuple []))
    have e8:=x_S8 (t:=t) (a:=a) (l:=l) hE (x3:=some (.tuple [])) (x7:=some (faultO f))
    rw [hb] at e8
    have cD:=x_D (a:=a) hE (x3:=some (.tuple [])) (x7:=some (faultO f)) ht hl hD
    have cR:=x_R2 (a:=a) (l:=l) (x3:=some (.tuple [])) (x4:=some (faultD τ)) (x7:=some (faultO f)) hlt hno hkl
    have fz:frz (xst t a l (some (.tuple [])) (some (faultD τ)) none none (some (faultO f)) (some (.bool b))) = (xst t a l (some (.tuple [])) (some (faultD τ)) none none (some (faultO f)) (some (.bool b))):=rfl
    rw [sC_app,e1,sbind_nxt,sC_app,sI_app,cA,ebind_ret,if_neg (by decide),sN_app,sbind_nxt,sC_app,e7,sbind_nxt,sC_app,sI_app,cC,ebind_ret,if_neg (by decide),sN_app,sbind_nxt,sC_app,e8,sbind_nxt,sC_app,sI_app,cD,ebind_ret,if_neg (by decide),sN_app,sbind_nxt,sC_app,sR_app,fz,cR]
    rfl
end Mine
end
section
set_option tactic.hygienic false
open PySem PySem.W PyProof.Rows PySem.Spec PySem.Calls
namespace Mine
structure Lw where
  C:Cx
  L:Addr
  a:Addr
  cd:Value
  P:Addr
  S:Addr
  T:Addr
  pc:List (List Nat)
  sc:List Int
  A:Around
  X:Addr
  xs:List Value
noncomputable abbrev Lw.env (K:Lw):Env:=envOfC "law" (scopeOf (stm 32)) K.L K.a K.cd
noncomputable def flat:PyData→Bool
  | .int _=>true
  | .str _=>true
  | _=>false
theorem flat_rd {h h':Heap} {v:Value} {d:PyData} (hf:flat d = true) (r:Rd h v d):Rd h' v d:=by
  cases r <;> simp [flat] at hf
  · exact .int _ _
  · exact .str _ _
theorem ints_rd {h:Heap}:∀ {vs:List Value} {ns:List Int},IntsAre vs ns→RdL h vs (ns.map .int)
  | _,_,.nil=>.nil
  | _,_,.cons _ _ r=>.cons (.int _ _) (ints_rd r)
theorem strs_rd {h h':Heap}:∀ {xs:List (List Nat)} {vs:List Value},RdL h vs (xs.map Sx)→RdL h' vs (xs.map Sx)
  | [],_,r=>by rw [r.nil_inv];exact .nil
  | _ :: _,_,r=>by
    obtain ⟨v,ws,rfl,a,b⟩:=r.cons_inv
    exact .cons (flat_rd rfl a) (strs_rd b)
theorem ints_rd' {h h':Heap}:∀ {xs:List Int} {vs:List Value},RdL h vs (xs.map .int)→RdL h' vs (xs.map .int)
  | [],_,r=>by rw [r.nil_inv];exact .nil
  | _ :: _,_,r=>by
    obtain ⟨v,ws,rfl,a,b⟩:=r.cons_inv
    exact .cons (flat_rd rfl a) (ints_rd' b)
theorem isList_up {h h':Heap} {a:Addr} {items:Array Value} (l:h.IsList a items) (u:Up h h'):h'.IsList a items:=by
  obtain ⟨o,ho,hc,n,hd⟩:=l
  obtain ⟨sl,e⟩:=u.slots _ _ ho fun vs q=>by rw [hd] at q;cases q
  exact ⟨_,e,hc,n,hd⟩
theorem isCell_up {h h':Heap} {c:Addr} {v:Option Value} (l:h.IsCell c v) (u:Up h h'):h'.IsCell c v:=by
  obtain ⟨o,ho,hd⟩:=l
  obtain ⟨sl,e⟩:=u.slots _ _ ho fun vs q=>by rw [hd] at q;cases q
  exact ⟨_,e,hd⟩
structure Ls (K:Lw):Prop where
  G:Glb K.C
  hd:K.A.handled = none
  nT:K.C.base.get? K.T = none
  TP:K.T ≠ K.P
  TS:K.T ≠ K.S
  TX:K.T ≠ K.X
structure LI (K:Lw) (loc:Str→Option PyData) (tx:List (List Nat)) (its:List (Addr × Obj)) (h:Heap):Prop where
  stays:K.C.base.StaysIn h
  loc:∃ m,Fr K.C.base K.L h m∧m "script" = some (.ref K.S)∧m "texts" = some (.ref K.T)∧∀ x d,loc x = some d→flat d = true∧∃ v,m x = some v∧Rd h v d
  cell:h.IsCell (K.L + 1) (some (.ref K.P))
  pl:∃ vs:List Value,h.IsList K.P vs.toArray∧RdL h vs (K.pc.map Sx)
  sl:∃ vs:List Value,h.IsList K.S vs.toArray∧IntsAre vs K.sc
  tl:∃ vs:List Value,OwnL h K.T vs.toArray∧RdL h vs (tx.map Sx)
  xl:h.IsList K.X K.xs.toArray
  kept:∀ p ∈ its,IsIt p.2∧h.get? p.1 = some p.2
section
variable {K:Lw} {loc:Str→Option PyData} {tx:List (List Nat)} {its:List (Addr × Obj)} {h h':Heap}
theorem LI.ext (I:LI K loc tx its h) (x:Ext K.C.base h h'):LI K loc tx its h':=by
  obtain ⟨m,F,e1,e2,hv⟩:=I.loc
  obtain ⟨v1,a1,b1⟩:=I.pl
  obtain ⟨v2,a2,b2⟩:=I.sl
  obtain ⟨v3,a3,b3⟩:=I.tl
  exact ⟨x.1,⟨m,F.of_stays x.1 x.2.slots,e1,e2,fun y d e=>⟨(hv y d e).1,let ⟨v,q,r⟩:=(hv y d e).2;⟨v,q,r.ext x⟩⟩⟩,isCell_up I.cell x.2,⟨v1,isList_up a1 x.2,b1.ext x⟩,⟨v2,isList_up a2 x.2,b2⟩,⟨v3,a3.up x.2,b3.ext x⟩,isList_up I.xl x.2,
    fun p hp=>⟨(I.kept p hp).1,x.2.its _ _ (I.kept p hp).2 (I.kept p hp).1⟩⟩
theorem LI.but {a:Addr} (I:LI K loc tx its h) (hb:K.C.base.get? a = none) (aL:K.L ≠ a) (ac:K.L + 1 ≠ a) (aP:K.P ≠ a) (aS:K.S ≠ a) (aT:K.T ≠ a) (aX:K.X ≠ a) (hi:∀ p ∈ its,p.1 ≠ a) (k:∀ b o,b ≠ a→h.get? b = some o→h'.get? b = some o):LI K loc tx its h':=by
  obtain ⟨m,F,e1,e2,hv⟩:=I.loc
  obtain ⟨v1,⟨o1,p1,q1⟩,b1⟩:=I.pl
  obtain ⟨v2,⟨o2,p2,q2⟩,b2⟩:=I.sl
  obtain ⟨v3,⟨o3,p3,q3⟩,b3⟩:=I.tl
  obtain ⟨o4,p4,q4⟩:=I.cell
  obtain ⟨o5,p5,q5⟩:=I.xl
  have st:K.C.base.StaysIn h':=fun b o e=>k _ _ (fun q=>by rw [q,hb] at e;cases e) (I.stays b o e)
  exact ⟨st,⟨m,⟨F.ns.at' fun o e=>k _ _ aL e,st,F.above⟩,e1,e2,fun y d e=>⟨(hv y d e).1,let ⟨v,q,r⟩:=(hv y d e).2;⟨v,q,flat_rd (hv y d e).1 r⟩⟩⟩,⟨o4,k _ _ ac p4,q4⟩,⟨v1,⟨o1,k _ _ aP p1,q1⟩,strs_rd b1⟩,⟨v2,⟨o2,k _ _ aS p2,q2⟩,b2⟩,⟨v3,⟨o3,k _ _ aT p3,q3⟩,strs_rd b3⟩,⟨o5,k _ _ aX p5,q5⟩,
    fun p hp=>⟨(I.kept p hp).1,k _ _ (hi p hp) (I.kept p hp).2⟩⟩
theorem LI.keep {q:Addr × Obj} (I:LI K loc tx its h) (hi:IsIt q.2) (e:h.get? q.1 = some q.2):LI K loc tx (q :: its) h :=
  ⟨I.stays,I.loc,I.cell,I.pl,I.sl,I.tl,I.xl,fun p hp=>by
    rcases List.mem_cons.mp hp with rfl | hp
    · exact ⟨hi,e⟩
    · exact I.kept p hp⟩
theorem LI.unkeep {q:Addr × Obj} (I:LI K loc tx (q :: its) h):LI K loc tx its h:=⟨I.stays,I.loc,I.cell,I.pl,I.sl,I.tl,I.xl,fun p hp=>I.kept p (.tail _ hp)⟩
theorem LI.lose {q:Addr × Obj} (I:LI K loc tx (q :: its) h) (hb:K.C.base.get? q.1 = none) (hn:∀ p ∈ its,p.1 ≠ q.1) (k:∀ b o,b ≠ q.1→h.get? b = some o→h'.get? b = some o):LI K loc tx its h':=by
  obtain ⟨⟨ic,vs,hd⟩,e0⟩:=I.kept q (.head _)
  have ne:∀ b o,h.get? b = some o→(∀ w,o.data ≠ .fields w)→b ≠ q.1:=fun b o e n w=>by
    subst w;rw [e0] at e;cases e;exact n _ hd
  have I0:=I.unkeep
  obtain ⟨m,F,e1,e2,hv⟩:=I.loc
  obtain ⟨v1,⟨o1,p1,_,n1,q1⟩,b1⟩:=I.pl
  obtain ⟨v2,⟨o2,p2,_,n2,q2⟩,b2⟩:=I.sl
  obtain ⟨v3,⟨o3,p3,_,_,n3,q3⟩,b3⟩:=I.tl
  obtain ⟨o4,p4,q4⟩:=I.cell
  obtain ⟨o5,p5,_,n5,q5⟩:=I.xl
  obtain ⟨oL,es,ep,hL,hLd,_⟩:=F.ns
  exact I0.but hb (ne _ _ hL fun w z=>by rw [hLd] at z;cases z) (ne _ _ p4 fun w z=>by rw [q4] at z;cases z) (ne _ _ p1 fun w z=>by rw [q1] at z;cases z) (ne _ _ p2 fun w z=>by rw [q2] at z;cases z) (ne _ _ p3 fun w z=>by rw [q3] at z;cases z) (ne _ _ p5 fun w z=>by rw [q5] at z;cases z) hn k
theorem LI.set {x:Str} {v:Value} {d:PyData} (I:LI K loc tx its h) (hsb:Heap.SameBut K.L h h') (hn:∀ m0,h.Ns K.L m0→h'.Ns K.L (fun y=>if y = x then some v else m0 y)) (r:Rd h v d) (hf:flat d = true) (hx1:x ≠ "script") (hx2:x ≠ "texts") :
    LI K (fun y=>if y = x then some d else loc y) tx its h':=by
  obtain ⟨m0,F,e1,e2,hv⟩:=I.loc
  obtain ⟨v1,⟨o1,p1,c1,n1,q1⟩,b1⟩:=I.pl
  obtain ⟨v2,⟨o2,p2,c2,n2,q2⟩,b2⟩:=I.sl
  obtain ⟨v3,⟨o3,p3,c3,d3,n3,q3⟩,b3⟩:=I.tl
  obtain ⟨o4,p4,q4⟩:=I.cell
  obtain ⟨o5,p5,c5,n5,q5⟩:=I.xl
  obtain ⟨oL,es,ep,hL,hLd,_⟩:=id F.ns
  have hL':h.get? K.L = some oL:=hL
  have ne:∀ b o,h.get? b = some o→(∀ w z,o.data ≠ .dict w z)→b ≠ K.L:=fun b o e n w=>by
    subst w;rw [hL'] at e;cases e;exact n _ _ hLd
  have k:∀ b o,b ≠ K.L→h.get? b = some o→h'.get? b = some o:=fun b o hb e=>(hsb.2 b hb).trans e
  have F':=F.set (hn m0 F.ns) hsb
  refine ⟨F'.keep,⟨_,F',by rw [if_neg (fun q=>hx1 q.symm)];exact e1,by rw [if_neg (fun q=>hx2 q.symm)];exact e2,fun y d' e=>?_⟩,⟨o4,k _ _ (Nat.succ_ne_self _) p4,q4⟩,
    ⟨v1,⟨o1,k _ _ (ne _ _ p1 fun w z q=>by rw [q1] at q;cases q) p1,c1,n1,q1⟩,strs_rd b1⟩,⟨v2,⟨o2,k _ _ (ne _ _ p2 fun w z q=>by rw [q2] at q;cases q) p2,c2,n2,q2⟩,b2⟩,
    ⟨v3,⟨o3,k _ _ (ne _ _ p3 fun w z q=>by rw [q3] at q;cases q) p3,c3,d3,n3,q3⟩,strs_rd b3⟩,⟨o5,k _ _ (ne _ _ p5 fun w z q=>by rw [q5] at q;cases q) p5,c5,n5,q5⟩,fun p hp=>?_⟩
  · by_cases hy:y = x
    · subst hy
      simp only [if_true] at e ⊢
      cases e
      exact ⟨hf,v,rfl,flat_rd hf r⟩
    · simp only [if_neg hy] at e ⊢
      obtain ⟨a,w,b,c⟩:=hv y d' e
      exact ⟨a,w,b,flat_rd a c⟩
  · obtain ⟨⟨ic,vs,hd⟩,e⟩:=I.kept p hp
    exact ⟨⟨ic,vs,hd⟩,k _ _ (ne _ _ e fun w z q=>by rw [hd] at q;cases q) e⟩
theorem LI.texts {tx':List (List Nat)} {vs':List Value} (I:LI K loc tx its h) (s:Ls K) (hsb:Heap.SameBut K.T h h') (hO:OwnL h' K.T vs'.toArray) (r:RdL h vs' (tx'.map Sx)):LI K loc tx' its h':=by
  obtain ⟨m,F,e1,e2,hv⟩:=I.loc
  obtain ⟨v1,⟨o1,p1,c1,n1,q1⟩,b1⟩:=I.pl
  obtain ⟨v2,⟨o2,p2,c2,n2,q2⟩,b2⟩:=I.sl
  obtain ⟨v3,⟨o3,p3,c3,d3,n3,q3⟩,b3⟩:=I.tl
  obtain ⟨o4,p4,q4⟩:=I.cell
  obtain ⟨o5,p5,c5,n5,q5⟩:=I.xl
  obtain ⟨oL,es,ep,hL,hLd,_⟩:=id F.ns
  have hL':h.get? K.L = some oL:=hL
  have k:∀ b o,b ≠ K.T→h.get? b = some o→h'.get? b = some o:=fun b o hb e=>(hsb.2 b hb).trans e
  have ne:∀ b o,h.get? b = some o→(∀ w z,o.data ≠ .seq w z)→b ≠ K.T:=fun b o e n w=>by
    subst w;rw [p3] at e;cases e;exact n _ _ q3
  have st:K.C.base.StaysIn h':=fun b o e=>k _ _ (fun q=>by rw [q,s.nT] at e;cases e) (I.stays b o e)
  exact ⟨st,⟨m,⟨F.ns.at' fun o e=>k _ _ (ne _ _ hL' fun w z q=>by rw [hLd] at q;cases q) e,st,F.above⟩,e1,e2,fun y d e=>⟨(hv y d e).1,let ⟨v,q,r⟩:=(hv y d e).2;⟨v,q,flat_rd (hv y d e).1 r⟩⟩⟩,⟨o4,k _ _ (ne _ _ p4 fun w z q=>by rw [q4] at q;cases q) p4,q4⟩,
    ⟨v1,⟨o1,k _ _ (Ne.symm s.TP) p1,c1,n1,q1⟩,strs_rd b1⟩,⟨v2,⟨o2,k _ _ (Ne.symm s.TS) p2,c2,n2,q2⟩,b2⟩,⟨vs',hO,strs_rd r⟩,⟨o5,k _ _ (Ne.symm s.TX) p5,c5,n5,q5⟩,
    fun p hp=>by
      obtain ⟨⟨ic,vs,hd⟩,e⟩:=I.kept p hp
      exact ⟨⟨ic,vs,hd⟩,k _ _ (ne _ _ e fun w z q=>by rw [hd] at q;cases q) e⟩⟩
theorem LI.size (I:LI K loc tx its h):K.C.base.objs.size ≤ h.objs.size:=by
  obtain ⟨m,F,_⟩:=I.loc
  exact Nat.le_trans F.above (Nat.le_of_lt F.ns.lt)
theorem LI.fresh (I:LI K loc tx its h) {a:Addr} (ha:h.objs.size ≤ a):K.C.base.get? a = none∧∀ p ∈ its,p.1 ≠ a:=by
  refine ⟨?_,fun p hp q=>?_⟩
  · cases hq:K.C.base.get? a with
    | none=>rfl
    | some o=>exact absurd (Nat.lt_of_lt_of_le (Heap.lt_size hq) (Nat.le_trans I.size ha)) (Nat.lt_irrefl _)
  · have:=Heap.lt_size (I.kept p hp).2
    rw [q] at this
    exact absurd this (Nat.not_lt.mpr ha)
theorem LI.frames (I:LI K loc tx its h):h.FunFrames K.C.base [K.env]:=by
  obtain ⟨m,F,_⟩:=I.loc
  refine .cons (by show (scopeOf (stm 32)).kind ≠ .module;decide) rfl F.ns ?_ trivial
  cases hq:K.C.base.get? K.L with
  | none=>rfl
  | some o=>exact absurd (Nat.lt_of_lt_of_le (Heap.lt_size hq) F.above) (Nat.lt_irrefl _)
end
end Mine
end
section
open PySem PySem.W PyProof.Rows PySem.Spec PySem.Calls
namespace Mine
noncomputable def Ev (K:Lw) (loc:Str→Option PyData) (tx:List (List Nat)) (its:List (Addr × Obj)) (e:Expr) (d:PyData):Prop :=
  ∀ (s:Shared) (Q E:Value→Shared→Prop),LI K loc tx its s.heap→(∀ v h' tk,Ext K.C.base s.heap h'→LI K loc tx its h'→Rd h' v d→Q v { s with heap:=h',toks:=tk })→wpAny K.C.M K.A (eval e K.env) Q E s
noncomputable def Eas (K:Lw) (loc:Str→Option PyData) (tx:List (List Nat)) (its:List (Addr × Obj)) (es:List Expr) (ds:List PyData):Prop :=
  ∀ (pos:Pos) (s:Shared) (Q:List Value→Shared→Prop) (E:Value→Shared→Prop),LI K loc tx its s.heap→(∀ vs h' tk,Ext K.C.base s.heap h'→LI K loc tx its h'→RdL h' vs ds→Q vs { s with heap:=h',toks:=tk })→wpAny K.C.M K.A (spliced (backTo pos (starEach es K.env))) Q E s
theorem rd_ints {h:Heap}:∀ {ns:List Int} {vs:List Value},RdL h vs (ns.map .int)→IntsAre vs ns
  | [],_,r=>by rw [r.nil_inv];exact .nil
  | n :: ns,_,r=>by
    obtain ⟨v,ws,rfl,a,b⟩:=r.cons_inv
    obtain ⟨t,rfl⟩:=a.int_inv
    exact .cons _ _ (rd_ints b)
section
variable {K:Lw} {loc:Str→Option PyData} {tx:List (List Nat)} {its:List (Addr × Obj)}
theorem Ev.name {x:Str} {p:Pos} {d:PyData} (hl:loc x = some d) (hk:(scopeOf (stm 32)).names.lookup x = some .local) (hd:(x == ("__debug__":Str)) = false):Ev K loc tx its (.Name x p) d:=fun s Q E I post=>by
  obtain ⟨m,F,e1,e2,hv⟩:=id I.loc
  obtain ⟨_,v,e3,r⟩:=hv x d hl
  exact ldLoc F e3 (post v s.heap s.toks (.refl I.stays) I r) rfl hk hd
theorem Ev.texts {p:Pos}:Ev K loc tx its (.Name "texts" p) (.list (tx.map Sx)):=fun s Q E I post=>by
  obtain ⟨m,F,e1,e2,hv⟩:=id I.loc
  obtain ⟨vs,a,b⟩:=I.tl
  exact ldLoc F e2 (post _ s.heap s.toks (.refl I.stays) I (.of_list a.isList b)) rfl (show (scopeOf (stm 32)).names.lookup ("texts":Str) = some .local by decide) (by decide)
theorem Ev.script {p:Pos}:Ev K loc tx its (.Name "script" p) (.list (K.sc.map .int)):=fun s Q E I post=>by
  obtain ⟨m,F,e1,e2,hv⟩:=id I.loc
  obtain ⟨vs,a,b⟩:=I.sl
  exact ldLoc F e1 (post _ s.heap s.toks (.refl I.stays) I (.of_list a (ints_rd b))) rfl (show (scopeOf (stm 32)).names.lookup ("script":Str) = some .local by decide) (by decide)
theorem Ev.pieces {p:Pos}:Ev K loc tx its (.Name "pieces" p) (.list (K.pc.map Sx)):=fun s Q E I post=>by
  obtain ⟨vs,a,b⟩:=I.pl
  exact wpAny_Name (wpAny_loadName_cell rfl (show (scopeOf (stm 32)).names.lookup ("pieces":Str) = some .cell by decide) rfl I.cell (post _ s.heap s.toks (.refl I.stays) I (.of_list a b))) (by decide)
theorem Ev.cint {i:Int} {k:Nat} {p:Pos}:Ev K loc tx its (.Constant (.int i) k p) (.int i):=fun s Q E I post =>
  wpAny_Constant_int (post _ s.heap _ (.refl I.stays) I (.int i _))
theorem Ev.bin {l r:Expr} {op:Operator} {p:Pos} {a b d:PyData} {o:PyData→PyData→Option PyData} (ho:BinOk K.C op o) (S:Ls K) (hf:Ev K loc tx its l a) (hg:Ev K loc tx its r b) (e:o a b = some d):Ev K loc tx its (.BinOp l op r p) d:=fun s Q E I post=>by
  refine wpAny_BinOp (hf s _ _ I fun va h₁ t₁ x1 I1 r1=>?_)
  refine hg { s with heap:=h₁,toks:=t₁ } _ _ I1 fun vb h₂ t₂ x2 I2 r2=>?_
  exact (ho K.A { s with heap:=h₂,toks:=t₂ } va vb a b d Q E S.hd I2.stays (r1.ext x2) r2 e fun v h' tk x3 r3=>post v h' tk ((x1.trans x2).trans x3) (I2.ext x3) r3).1
theorem Ev.index {e i:Expr} {p:Pos} {a b d:PyData} (hf:Ev K loc tx its e a) (hg:Ev K loc tx its i b) (e1:itemD a b = some d) (hs:∀ o k,subscripted i false o k = operate [o,k] (getItem o k):=by intro _ _;rfl):Ev K loc tx its (.Subscript e i p) d:=fun s Q E I post=>by
  refine Subscript_ (hf s _ _ I fun va h₁ t₁ x1 I1 r1=>?_)
  refine hg { s with heap:=h₁,toks:=t₁ } _ _ I1 fun vb h₂ t₂ x2 I2 r2=>?_
  exact item_rd (s:={ s with heap:=h₂,toks:=t₂ }) I2.stays (r1.ext x2) r2 e1 hs fun v h' tk x3 r3=>post v h' tk ((x1.trans x2).trans x3) (I2.ext x3) r3
noncomputable def EvP (K:Lw) (loc:Str→Option PyData) (tx:List (List Nat)) (its:List (Addr × Obj)) (oe:Option Expr) (p:Option Int):Prop :=
  ∀ (s:Shared) (Q E:Value→Shared→Prop),LI K loc tx its s.heap→(∀ (q:Option (Int × Tok)) h' tk,q.map (·.1) = p→Ext K.C.base s.heap h'→LI K loc tx its h'→Q (partValue q) { s with heap:=h',toks:=tk })→wpAny K.C.M K.A (evalPart oe K.env) Q E s
theorem EvP.no:EvP K loc tx its none none:=fun s Q E I post=>wpAny_pure (post none s.heap s.toks rfl (.refl I.stays) I)
theorem EvP.of {e:Expr} {i:Int} (h:Ev K loc tx its e (.int i)):EvP K loc tx its (some e) (some i):=fun s Q E I post=>by
  show wpAny _ _ (eval e _) _ _ _
  refine h s _ _ I fun v h₁ t₁ x1 I1 r1=>?_
  obtain ⟨t,rfl⟩:=r1.int_inv
  exact post (some (i,t)) h₁ t₁ rfl x1 I1
theorem Ev.cut {e:Expr} {lo hi:Option Expr} {p p':Pos} {a d:PyData} {l u:Option Int} (hf:Ev K loc tx its e a) (hl:EvP K loc tx its lo l) (hu:EvP K loc tx its hi u) (e1:cutD a l u = some d) (ht:∀ x t r,letTemporaryGo e (.str x t) r = pure ():=by intro _ _ _;rfl) :
    Ev K loc tx its (.Subscript e (.Slice lo hi none p) p') d:=fun s Q E I post=>by
  refine Subscript_ (hf s _ _ I fun va h₁ t₁ x1 I1 r1=>?_)
  refine wpAny_Slice (hl { s with heap:=h₁,toks:=t₁ } _ _ I1 fun ql h₂ t₂ el x2 I2=>?_)
  refine hu { s with heap:=h₂,toks:=t₂ } _ _ I2 fun qu h₃ t₃ eu x3 I3=>?_
  refine wpAny_pure ?_
  unfold cutD at e1
  split at e1
  · rename_i x
    split at e1
    · rename_i hn
      cases e1
      obtain ⟨t,rfl⟩:=r1.str_inv
      have x4:=Ext.push I3.stays { cls:=.type "slice",data:=.fields #[partValue ql,partValue qu,.none] }
      refine tail_any (ops:=[_,_]) (typeIs_str _ _ _) F.slot_str_getitem.lookup (wpAny_getItem_str_slice (l:=ql) (u:=qu) (st:=none) ⟨_,Heap.get?_push_size _ rfl,rfl,rfl⟩ rfl (sliceMade_post (small_fits hn) fun t' k=>?_)) rfl
      rw [el,eu]
      exact post _ _ _ (((x1.trans x2).trans x3).trans x4) (I3.ext x4) (.str _ _)
    · cases e1
  · cases e1
theorem Ev.cutL {e:Expr} {lo hi:Option Expr} {p p':Pos} {ns:List Int} {l u:Option Int} {ms:List Int} (hf:Ev K loc tx its e (.list (ns.map .int))) (hl:EvP K loc tx its lo l) (hu:EvP K loc tx its hi u)
    (e1:∀ vs:List Value,IntsAre vs ns→IntsAre (slicePick vs.toArray l u none).toList ms) (hn:ns.length ≤ 1000000) (ht:∀ o r,letTemporaryGo e o r = pure ():=by intro _ _;rfl) :
    Ev K loc tx its (.Subscript e (.Slice lo hi none p) p') (.list (ms.map .int)):=fun s Q E I post=>by
  refine wpAny_Subscript_list_slice (hf s _ _ I fun va h₁ t₁ x1 I1 r1=>?_) ht
  refine hl { s with heap:=h₁,toks:=t₁ } _ _ I1 fun ql h₂ t₂ el x2 I2=>?_
  refine hu { s with heap:=h₂,toks:=t₂ } _ _ I2 fun qu h₃ t₃ eu x3 I3=>?_
  obtain ⟨a,vs,rfl,hL,hr⟩:=r1.list_inv
  have hI:IntsAre vs ns:=rd_ints hr
  have hL3:=isList_up (isList_up hL x2.2) x3.2
  have part:∀ {q:Option (Int × Tok)} {z:Option Int},q.map (·.1) = z→IsPart (partValue q) z:=fun {q z} e=>by
    subst e
    cases q with
    | none=>exact .none
    | some q=>exact .int _ _
  refine ⟨a,vs.toArray,l,u,rfl,hL3,?_,part el,part eu,?_⟩
  · rw [List.size_toArray,hr.length,List.length_map];exact small_fits hn
  · have x4:=Ext.push I3.stays { cls:=.type "slice",data:=.fields #[partValue ql,partValue qu,.none] }
    have x5:=Ext.push x4.1 { cls:=.type "list",data:=.seq (slicePick vs.toArray l u none) }
    refine post _ _ _ ((((x1.trans x2).trans x3).trans x4).trans x5) ((I3.ext x4).ext x5) ?_
    have sz:(h₃.push { cls:=.type "slice",data:=.fields #[partValue ql,partValue qu,.none] }).objs.size = h₃.objs.size + 1:=Heap.size_push ..
    have g:=Heap.get?_push_size (h₃.push { cls:=.type "slice",data:=.fields #[partValue ql,partValue qu,.none] }) (o:={ cls:=.type "list",data:=.seq (slicePick vs.toArray l u none) }) rfl
    rw [sz] at g
    exact .list_at (vs:=(slicePick vs.toArray l u none).toList) (n:=0) g rfl (by rw [Array.toArray_toList]) (ints_rd (e1 vs hI))
theorem Eas.nil:Eas K loc tx its [] []:=fun pos s Q E I post=>args_nil (post [] s.heap s.toks (.refl I.stays) I .nil)
theorem Eas.cons {e:Expr} {es:List Expr} {d:PyData} {ds:List PyData} (h:Ev K loc tx its e d) (hs:Eas K loc tx its es ds) (he:starEach (e :: es) K.env = (false,eval e K.env) :: starEach es K.env:=by rfl):Eas K loc tx its (e :: es) (d :: ds):=fun pos s Q E I post=>by
  refine args_cons ?_ he
  refine h s _ _ I fun v h₁ t₁ x1 I1 r1=>?_
  exact hs pos { s with heap:=h₁,toks:=t₁ } _ _ I1 fun vs h₂ t₂ x2 I2 r2=>post (v :: vs) h₂ t₂ (x1.trans x2) I2 (.cons (r1.ext x2) r2)
theorem lw_blt {s:Shared} {x:Str} {p:Pos} {v:Value} {Q E:Value→Shared→Prop} (G:Glb K.C) (hst:K.C.base.StaysIn s.heap) (hm:K.C.mg x = none) (hv:bootBuiltins x = some v) (hn:x ≠ "__name__") (hl:(scopeOf (stm 32)).names.lookup x = some .globalImplicit) (hd:(x == ("__debug__":Str)) = false)
    (h:Q v s):wpAny K.C.M K.A (eval (.Name x p) K.env) Q E s :=
  Name_function_global rfl hl (loadGlobal_builtin (env:=K.env) (G.g.keeps hst) hm (G.b.keeps hst) ((G.builtins x hn).trans hv) h) hd
theorem lw_glob {s:Shared} {x:Str} {p:Pos} {v:Value} {Q E:Value→Shared→Prop} (G:Glb K.C) (hst:K.C.base.StaysIn s.heap) (hv:K.C.mg x = some v) (hl:(scopeOf (stm 32)).names.lookup x = some .globalImplicit) (hd:(x == ("__debug__":Str)) = false)
    (h:Q v s):wpAny K.C.M K.A (eval (.Name x p) K.env) Q E s :=
  Name_function_global rfl hl (loadGlobal_global (env:=K.env) (G.g.keeps hst) hv h) hd
theorem Ev.len (S:Ls K) {p p':Pos} {e:Expr} {a d:PyData} (hm:K.C.mg "len" = none) (hf:Ev K loc tx its e a) (e1:lenD a = some d) (he:starEach [e] K.env = [(false,eval e K.env)]:=by rfl)
    (hc:eval (.Call (.Name "len" p) [e] [] p') K.env = (do callWith p' (← eval (.Name "len" p) K.env) [] (backTo p' (starEach [e] K.env)) (backToKw p' (keywordEach [] K.env))):=by rfl) :
    Ev K loc tx its (.Call (.Name "len" p) [e] [] p') d:=fun s Q E I post=>by
  refine Call_ ?_ hc
  refine lw_blt S.G I.stays hm (v:=.builtin "len") rfl (by decide) (by decide) (by decide) ?_
  refine PyProof.Rows.callWith_builtin1 (args_cons (hf s _ _ I fun va h₁ t₁ x1 I1 r1=>?_) he) he
  refine args_nil ?_
  exact Blt1.len K.A { s with heap:=h₁,toks:=t₁ } va a d Q E S.hd I1.stays r1 e1 fun v h' tk x2 r2=>post v h' tk (x1.trans x2) (I1.ext x2) r2
theorem Ev.max (S:Ls K) {p p':Pos} {e f:Expr} {a b:Int} (hm:K.C.mg "max" = none) (hf:Ev K loc tx its e (.int a)) (hg:Ev K loc tx its f (.int b)) (he:starEach [e,f] K.env = (false,eval e K.env) :: starEach [f] K.env:=by rfl) (he2:starEach [f] K.env = (false,eval f K.env) :: starEach [] K.env:=by rfl)
    (hc:eval (.Call (.Name "max" p) [e,f] [] p') K.env = (do callWith p' (← eval (.Name "max" p) K.env) [] (backTo p' (starEach [e,f] K.env)) (backToKw p' (keywordEach [] K.env))):=by rfl) :
    Ev K loc tx its (.Call (.Name "max" p) [e,f] [] p') (.int (if b > a then b else a)):=fun s Q E I post=>by
  refine Call_ ?_ hc
  refine lw_blt S.G I.stays hm (v:=.builtin "max") rfl (by decide) (by decide) (by decide) ?_
  refine PyProof.Rows.callWith_builtin1 (Eas.cons hf (Eas.cons hg Eas.nil he2) he p' s _ _ I fun vs h₁ t₁ x1 I1 r1=>?_) he (by rw [he2];rfl)
  obtain ⟨va,_,rfl,ra,r2⟩:=r1.cons_inv
  obtain ⟨vb,_,rfl,rb,r3⟩:=r2.cons_inv
  obtain rfl:=r3.nil_inv
  obtain ⟨t,rfl⟩:=ra.int_inv
  obtain ⟨u,rfl⟩:=rb.int_inv
  refine max_two_ints (s:={ s with heap:=h₁,toks:=t₁ }) S.hd fun h' tk k=>?_
  have x2:=Ext.of_keeps (h:=h₁) I1.stays k
  by_cases hb:b > a
  · rw [if_pos hb] at post ⊢
    exact post _ h' tk (x1.trans x2) (I1.ext x2) (.int _ _)
  · rw [if_neg hb] at post ⊢
    exact post _ h' tk (x1.trans x2) (I1.ext x2) (.int _ _)
end
end Mine
end
section
set_option tactic.hygienic false
open PySem PySem.W PyProof.Rows PySem.Spec PySem.Calls
namespace Mine
noncomputable def Fine (B:Nat) (tx:List (List Nat)):Prop:=∀ t ∈ tx,t.length ≤ B∧okc t
structure Lp (K:Lw):Prop where
  n48:K.pc.length = 48
  fine:Fine 4 K.pc
  len:K.C.mg "len" = none
  max:K.C.mg "max" = none
  range:K.C.mg "range" = none
  enumerate:K.C.mg "enumerate" = none
noncomputable def lst (i:Nat):Stmt:=(bodyOf (stm 32)).getD i (.Pass default)
noncomputable def forBody:Stmt→List Stmt
  | .For _ _ b _ _=>b
  | _=>[]
theorem body_lst:bodyOf (stm 32) = [lst 0,lst 1,lst 2,lst 3,lst 4,lst 5]:=rfl
theorem fine_get {B:Nat} {tx:List (List Nat)} (h:Fine B tx) (i:Nat):(tx.getD i []).length ≤ B∧okc (tx.getD i []):=by
  by_cases hi:i < tx.length
  · have:tx.getD i [] = tx[i]:=by rw [List.getD_eq_getElem?_getD,List.getElem?_eq_getElem hi];rfl
    rw [this]
    exact h _ (List.getElem_mem hi)
  · have:tx.getD i [] = []:=by rw [List.getD_eq_getElem?_getD,List.getElem?_eq_none (by lia)];rfl
    rw [this]
    exact ⟨Nat.zero_le _,okc_nil⟩
theorem itemL {ds:List (List Nat)} {i:Int} (h0:0 ≤ i) (h1:i < ds.length) (hl:ds.length ≤ 1000):itemD (.list (ds.map Sx)) (.int i) = some (Sx (ds.getD i.toNat [])):=by
  unfold itemD
  dsimp only
  rw [if_pos ⟨by lia,by lia⟩,List.length_map,seqIndex_nat h0 h1]
  have:i.toNat < ds.length:=by lia
  simp [List.getD_eq_getElem?_getD,List.getElem?_eq_getElem this]
theorem itemLneg {ds:List (List Nat)} (h:ds ≠ []) (hl:ds.length ≤ 1000):itemD (.list (ds.map Sx)) (.int (-1)) = some (Sx (ds.getD (ds.length - 1) [])):=by
  obtain ⟨D,x,rfl⟩:∃ D x,ds = D ++ [x]:=⟨ds.dropLast,ds.getLast h,(List.dropLast_concat_getLast h).symm⟩
  rw [List.map_append,List.map_singleton,item_lastL (by rw [List.length_map];simp at hl;lia)]
  simp
theorem divK {x:Int} {k:Int} (h:k ≠ 0∧k.natAbs < 1073741824):divD (.int x) (.int k) = some (.int (x.fdiv k)):=by unfold divD;dsimp only;rw [if_pos h]
theorem modK {x:Int} {k:Int} (h:k ≠ 0):modD (.int x) (.int k) = some (.int (x.fmod k)):=by unfold modD;dsimp only;rw [if_neg h]
theorem fmod_rng (x:Int) {k:Int} (h:0 < k):0 ≤ x.fmod k∧x.fmod k < k:=⟨Int.fmod_nonneg_of_pos x h,Int.fmod_lt_of_pos x h⟩
theorem cutFrom {t:List Nat} (ht:Small t) {a:Int} (ha:0 ≤ a):cutD (Sx t) (some a) none = some (Sx (t.drop a.toNat)):=by
  unfold cutD Sx
  unfold Small at ht
  dsimp only
  rw [if_pos (by rw [mk_len];lia)]
  have e:Txt.slice (mk t) (some a) none = Txt.slice (mk t) (some a) (some (t.length:Int)):=by
    unfold Txt.slice
    rw [StrLaws.sliceIdx_none_hi,mk_len]
  rw [e,slice_mk t ha (by lia),List.take_of_length_le (by simp)]
theorem other {loc:Str→Option PyData} {x y:Str} {d d':Option PyData} (h:loc x = d') (hne:x ≠ y):(fun z=>if z = y then d else loc z) x = d':=by
  show (if x = y then d else loc x) = d'
  rw [if_neg hne];exact h
section
variable {K:Lw} {loc:Str→Option PyData} {tx:List (List Nat)} {its:List (Addr × Obj)}
theorem lw_store {s:Shared} {x:Str} {v:Value} {d:PyData} {Q:Unit→Shared→Prop} {E:Value→Shared→Prop} (I:LI K loc tx its s.heap) (hl:(scopeOf (stm 32)).names.lookup x = some .local) (r:Rd s.heap v d) (hf:flat d = true) (hx1:x ≠ "script") (hx2:x ≠ "texts")
    (h:∀ h' tk,LI K (fun y=>if y = x then some d else loc y) tx its h'→Q () { s with heap:=h',toks:=tk }):wpAny K.C.M K.A (storeName K.env x v) Q E s:=by
  obtain ⟨m,F,_⟩:=id I.loc
  refine wpAny_storeName_local hl F.ns (fun h' hn hs=>h h' _ (I.set hs (fun m0 hm0=>?_) r hf hx1 hx2)) rfl
  have e:m0 = m:=hm0.eq_nsMap.trans F.ns.eq_nsMap.symm
  rw [e];exact hn
theorem Ev.assign {s:Shared} {x:Str} {p p':Pos} {e:Expr} {d:PyData} {Q:Flow→Shared→Prop} {E:Value→Shared→Prop} (h:Ev K loc tx its e d) (I:LI K loc tx its s.heap) (hl:(scopeOf (stm 32)).names.lookup x = some .local) (hf:flat d = true) (hx1:x ≠ "script") (hx2:x ≠ "texts")
    (post:∀ h' tk,LI K (fun y=>if y = x then some d else loc y) tx its h'→Q .next { s with heap:=h',toks:=tk }) (hs:swapsWith e (some (.Name x p)) p'.line K.env = pure false:=by rfl):wpAny K.C.M K.A (exec (.Assign [.Name x p] e p') K.env) Q E s :=
  wpAny_Assign_Name (h s _ _ I fun v h' tk _ I' r=>lw_store (s:={ s with heap:=h',toks:=tk }) I' hl r hf hx1 hx2 fun h2 tk2 I2=>post h2 tk2 I2) hs
theorem own_setK {A:Around} {C:Cx} {s:Shared} {E:Value→Shared→Prop} {l:Addr} {items:Array Value} {k:Int} {t:Tok} {v:Value} {Q:Unit→Shared→Prop} (hO:OwnL s.heap l items) (h0:0 ≤ k) (hfit:k < 2 ^ 63) (hn:k < items.size)
    (hQ:∀ h',OwnL h' l (items.setIfInBounds k.toNat v)→Heap.SameBut l s.heap h'→Q () { s with heap:=h' }):wpAny C.M A (setItem (.ref l) (.int k t) v) Q E s:=by
  obtain ⟨o,ho,hc,hdn,n,hd⟩:=id hO
  have hl:s.heap.IsList l items:=hO.isList
  unfold setItem
  try with_reducible refine wpAny_holding ?_
  first | refine wpAny_bind (wpAny_pure ?_) | skip
  refine wpAny_bind (wpAny_sequenceKey hl.typeIs (by decide) ?_)
  refine wpAny_bind (wpAny_callSpecial?_slot (name:=Str.ofString "__setitem__") hl.typeIs slot_list_setitem
    (wpAny_call_entry slot_list_setitem hl.typeIs entry_list_setitem ?_ (args_list_setitem _ _ _)))
  show wpAny _ _ (Builtin.List.listSubscript? (.int k t) >>= _) _ _ s
  refine wpAny_bind (wpAny_listSubscript_int (fitsIndex_of h0 hfit) ?_)
  clear hfit
  obtain ⟨j,rfl⟩:=Int.eq_ofNat_of_zero_le h0
  have hj:j < items.size:=by lia
  have hx':items[j]? = some items[j]:=Array.getElem?_eq_getElem hj
  show wpAny _ _ ((seqItemAt l j >>= fun r=>pure (r.map (j,·))) >>= _) _ _ s
  refine wpAny_bind (wpAny_bind (wpAny_seqItemAt ho hd (wpAny_pure ?_)))
  rw [hx']
  show wpAny _ _ (setSeqItemAt l j v >>= _) _ _ s
  obtain ⟨n',hd'⟩:=Obj.data_mapSeq hd (·.setIfInBounds j v)
  have hfin:OwnL (s.heap.update l (Obj.mapSeq (·.setIfInBounds j v))) l (items.setIfInBounds j v) :=
    ⟨_,Heap.get?_update_self _ ho (Obj.isFreed_of_seq hd'),(Obj.cls_mapSeq ..).trans hc,(Obj.dict_mapSeq ..).trans hdn,n',hd'⟩
  refine wpAny_bind (wpAny_setSeqItemAt ho hd ?_)
  first
    | exact wpAny_bind (wpAny_pure (wpAny_pure ⟨.none,rfl,wpAny_pure (hQ _ hfin (Heap.SameBut.update ..))⟩))
    | exact wpAny_pure ⟨.none,rfl,wpAny_pure (hQ _ hfin (Heap.SameBut.update ..))⟩
theorem set_map (tx:List (List Nat)) (i:Nat) (t:List Nat):(tx.map Sx).set i (Sx t) = (tx.set i t).map Sx:=by rw [List.map_set]
theorem Ev.setText {s:Shared} {i e:Expr} {p p' p'':Pos} {z:Int} {t:List Nat} {Q:Flow→Shared→Prop} {E:Value→Shared→Prop} (S:Ls K) (he:Ev K loc tx its e (Sx t)) (hi:Ev K loc tx its i (.int z)) (h0:0 ≤ z) (h1:z < tx.length) (hl:tx.length ≤ 1000) (I:LI K loc tx its s.heap)
    (post:∀ h' tk,LI K loc (tx.set z.toNat t) its h'→Q .next { s with heap:=h',toks:=tk }) (hs:swapsWith e (some (.Subscript (.Name "texts" p) i p')) p''.line K.env = pure false:=by rfl) :
    wpAny K.C.M K.A (exec (.Assign [.Subscript (.Name "texts" p) i p'] e p'') K.env) Q E s:=by
  refine wpAny_Assign_Subscript (he s _ _ I fun v h₁ t₁ x1 I1 r1=>?_) hs
  obtain ⟨m,F,e1,e2,_⟩:=id I1.loc
  refine ldLoc (s:={ s with heap:=h₁,toks:=t₁ }) F e2 ?_ rfl (show (scopeOf (stm 32)).names.lookup ("texts":Str) = some .local by decide) (by decide)
  refine hi { s with heap:=h₁,toks:=t₁ } _ _ I1 fun iv h₂ t₂ x2 I2 r2=>?_
  obtain ⟨u,rfl⟩:=r2.int_inv
  obtain ⟨vs,hO,hr⟩:=id I2.tl
  have hsz:vs.toArray.size = tx.length:=by rw [List.size_toArray,hr.length,List.length_map]
  refine own_setK (s:={ s with heap:=h₂,toks:=t₂ }) hO h0 (by lia) (by rw [hsz];exact h1) fun h₃ hO3 sb=>?_
  refine post h₃ t₂ (I2.texts S (tx':=tx.set z.toNat t) sb (vs':=vs.set z.toNat v) ?_ ?_)
  · have:(vs.set z.toNat v).toArray = vs.toArray.setIfInBounds z.toNat v:=by simp
    rw [this];exact hO3
  · rw [← set_map]
    exact hr.set (r1.ext x2) z.toNat
theorem fine_set {B:Nat} {tx:List (List Nat)} {i:Nat} {t:List Nat} (h:Fine B tx) (ht:t.length ≤ B∧okc t):Fine B (tx.set i t):=fun y hy=>by
  rcases List.mem_or_eq_of_mem_set hy with h1 | rfl
  · exact h y h1
  · exact ht
theorem len_bd {m b l p B:Nat} (h1:m ≤ l) (h2:m ≤ b) (h3:p ≤ 4) (h4:l ≤ B):m + p + (l - b) ≤ B + 4:=by lia
theorem body1_ok {s:Shared} {x:Int} {B:Nat} {Q:Flow→Shared→Prop} {E:Value→Shared→Prop} (S:Ls K) (Z:Lp K) (I:LI K loc tx its s.heap) (hx:loc "x" = some (.int x)) (h4:tx.length = 4) (hF:Fine B tx) (hB:B ≤ 200)
    (post:∀ h' tk loc' tx',LI K loc' tx' its h'→tx'.length = 4→Fine (B + 4) tx'→Q .next { s with heap:=h',toks:=tk }):wpAny K.C.M K.A (execs (forBody (lst 2)) K.env) Q E s:=by
  have r4:=fmod_rng (x.fdiv 48) (k:=4) (by lia)
  have hidx:∀ {loc:Str→Option PyData} {p1 p2 p3 p4 p5:Pos} {k1 k2:Nat},loc "x" = some (.int x)→Ev K loc tx its (.BinOp (.BinOp (.Name "x" p1) .FloorDiv (.Constant (.int 48) k1 p2) p3) .Mod (.Constant (.int 4) k2 p4) p5) (.int ((x.fdiv 48).fmod 4)) :=
    fun hx=>Ev.bin BinOk.mod S (Ev.bin BinOk.floordiv S (Ev.name hx (by decide) (by decide)) Ev.cint (divK (by decide))) Ev.cint (modK (by decide))
  generalize hz:(x.fdiv 48).fmod 4 = z at r4 hidx
  have g:=fine_get hF z.toNat
  generalize hold:tx.getD z.toNat [] = old at g
  have e1:itemD (.list (tx.map Sx)) (.int z) = some (Sx old):=by rw [← hold];exact itemL r4.1 (by lia) (by lia)
  refine wpAny_execs_cons (Ev.assign (Ev.index Ev.texts (hidx hx) e1) I (by decide) rfl (by decide) (by decide) fun h₁ t₁ I1=>?_)
  dsimp only
  have hsm:Small old:=by unfold Small;lia
  have hlen:=lenD_mk hsm
  generalize hn:((old.length:Nat):Int) = n at hlen
  have rc:=fmod_rng (x.fdiv 192) (k:=n + 1) (by lia)
  refine wpAny_execs_cons (Ev.assign (Ev.bin BinOk.mod S (Ev.bin BinOk.floordiv S (Ev.name (d:=.int x) (other hx (by decide)) (by decide) (by decide)) Ev.cint (divK (by decide))) (Ev.bin BinOk.add S (Ev.len S Z.len (Ev.name (d:=Sx old) rfl (by decide) (by decide)) hlen) Ev.cint rfl) (modK (by lia))) I1 (by decide) rfl (by decide) (by decide) fun h₂ t₂ I2=>?_)
  dsimp only
  generalize hc:(x.fdiv 192).fmod (n + 1) = c at rc I2
  have r48:=fmod_rng x (k:=48) (by lia)
  generalize hq:x.fmod 48 = q at r48
  have gp:=fine_get Z.fine q.toNat
  generalize hpc:K.pc.getD q.toNat [] = pp at gp
  have e2:itemD (.list (K.pc.map Sx)) (.int q) = some (Sx pp):=by rw [← hpc];exact itemL r48.1 (by rw [Z.n48];exact r48.2) (by rw [Z.n48];lia)
  have e3:=cutTo hsm (b:=c) rc.1
  generalize hm:(if (1:Int) - q > 0 then 1 - q else 0) = w
  have hw:0 ≤ w:=by rw [← hm];split <;> lia
  have e4:=cutFrom hsm (a:=c + w) (by lia)
  have a1:addD (Sx (old.take c.toNat)) (Sx pp) = some (Sx (old.take c.toNat ++ pp)):=addD_mk (Nat.le_trans (Nat.add_le_add (List.length_take_le' _ _) gp.1) (by lia))
  have a2:addD (Sx (old.take c.toNat ++ pp)) (Sx (old.drop (c + w).toNat)) = some (Sx (old.take c.toNat ++ pp ++ old.drop (c + w).toNat)):=addD_mk (by rw [List.length_append];exact Nat.le_trans (Nat.add_le_add (Nat.add_le_add (List.length_take_le' _ _) gp.1) (List.drop_suffix _ _).length_le) (by lia))
  have hx3:(fun y=>if y = Str.ofString "cut_at" then some (PyData.int c) else if y = Str.ofString "old" then some (Sx old) else loc y) "x" = some (.int x):=other (loc:=fun y=>if y = Str.ofString "old" then some (Sx old) else loc y) (other hx (by decide)) (by decide)
  have evq:∀ {p1 p2 p3:Pos} {k1:Nat},Ev K (fun y=>if y = Str.ofString "cut_at" then some (PyData.int c) else if y = Str.ofString "old" then some (Sx old) else loc y) tx its (.BinOp (.Name "x" p1) .Mod (.Constant (.int 48) k1 p2) p3) (.int q):=by
    intro p1 p2 p3 k1
    rw [← hq]
    exact Ev.bin BinOk.mod S (Ev.name hx3 (by decide) (by decide)) Ev.cint (modK (by decide))
  have evc:∀ {p1:Pos},Ev K (fun y=>if y = Str.ofString "cut_at" then some (PyData.int c) else if y = Str.ofString "old" then some (Sx old) else loc y) tx its (.Name "cut_at" p1) (.int c):=Ev.name rfl (by decide) (by decide)
  have evo:∀ {p1:Pos},Ev K (fun y=>if y = Str.ofString "cut_at" then some (PyData.int c) else if y = Str.ofString "old" then some (Sx old) else loc y) tx its (.Name "old" p1) (Sx old):=Ev.name rfl (by decide) (by decide)
  have evm:∀ {p p' p1 p2 p3 p4 p5 p6:Pos} {k1 k2 k3:Nat},Ev K (fun y=>if y = Str.ofString "cut_at" then some (PyData.int c) else if y = Str.ofString "old" then some (Sx old) else loc y) tx its
      (.Call (.Name "max" p) [.Constant (.int 0) k1 p1,.BinOp (.Constant (.int 1) k2 p2) .Sub (.BinOp (.Name "x" p3) .Mod (.Constant (.int 48) k3 p4) p5) p6] [] p') (.int w):=by
    intro p p' p1 p2 p3 p4 p5 p6 k1 k2 k3
    rw [← hm]
    exact Ev.max S Z.max Ev.cint (Ev.bin BinOk.sub S Ev.cint evq rfl)
  refine wpAny_execs_cons (Ev.setText S (Ev.bin BinOk.add S (Ev.bin BinOk.add S (Ev.cut evo EvP.no (EvP.of evc) e3) (Ev.index Ev.pieces evq e2) a1) (Ev.cut evo (EvP.of (Ev.bin BinOk.add S evc evm rfl)) EvP.no e4) a2) (hidx hx3) r4.1 (by lia) (by lia) I2 fun h₃ t₃ I3=>?_)
  dsimp only
  refine wpAny_execs_nil (post h₃ t₃ _ _ I3 (by rw [List.length_set];exact h4) (fine_set (fun y hy=>⟨Nat.le_trans (hF y hy).1 (by lia),(hF y hy).2⟩) ⟨?_,?_⟩))
  · rw [List.length_append,List.length_append,List.length_take,List.length_drop]
    exact len_bd (Nat.min_le_right _ _) (Nat.le_trans (Nat.min_le_left _ _) (Int.toNat_le_toNat (Int.le_add_of_nonneg_right hw))) gp.1 g.1
  · exact okc_app (okc_app (okc_take g.2 _) gp.2) (okc_suf g.2 (List.drop_suffix _ _))
end
end Mine
end
section
set_option tactic.hygienic false
open PySem PySem.W PyProof.Rows PySem.Spec PySem.Calls
namespace Mine
theorem list_same {h:Heap} {a:Addr} {xs ys:Array Value} (l1:h.IsList a xs) (l2:h.IsList a ys):xs = ys:=by
  obtain ⟨o,ho,_,n,hd⟩:=l1
  obtain ⟨o',ho',_,n',hd'⟩:=l2
  rw [ho] at ho';cases ho';rw [hd] at hd';cases hd';rfl
theorem int_str {h h':Heap} {vs:List Value} {ns:List Int} {tx:List (List Nat)} (hn:tx ≠ []) (r:IntsAre vs ns) (q:RdL h' vs (tx.map Sx)):False:=by
  cases tx with
  | nil=>exact hn rfl
  | cons t tx =>
    obtain ⟨v,ws,rfl,a,b⟩:=q.cons_inv
    cases r with
    | cons n t' r=>cases a
section
variable {K:Lw} {loc:Str→Option PyData} {tx:List (List Nat)} {its:List (Addr × Obj)}
theorem LI.reX {h:Heap} {a:Addr} {vs:List Value} (I:LI K loc tx its h) (hl:h.IsList a vs.toArray):LI { K with X:=a,xs:=vs } loc tx its h:=⟨I.stays,I.loc,I.cell,I.pl,I.sl,I.tl,hl,I.kept⟩
theorem LI.unX {h:Heap} {a b:Addr} {vs ws:List Value} (I:LI { K with X:=a,xs:=vs } loc tx its h) (hl:h.IsList b ws.toArray):LI { K with X:=b,xs:=ws } loc tx its h:=⟨I.stays,I.loc,I.cell,I.pl,I.sl,I.tl,hl,I.kept⟩
theorem LI.it {h:Heap} {q:Addr × Obj} (I:LI K loc tx (q :: its) h):h.get? q.1 = some q.2:=(I.kept q (.head _)).2
theorem loop1_go {s:Shared} {B t₁:Nat} {Q:Flow→Shared→Prop} {E:Value→Shared→Prop} {IT:Addr} {o0:Obj} {H2:Heap} (S1:Ls K) (Z1:Lp K) (fb:K.C.base.get? IT = none) (fi:∀ p ∈ its,p.1 ≠ IT)
    (hint:∀ (i:Nat) (v:Value),K.xs[i]? = some v→∃ n t,v = .int n t) (hlen:K.xs.length ≤ 8) (I2:LI K loc tx its H2) (hg0:H2.get? IT = some o0) (hc0:o0.cls = .type "list_iterator") (hd0:o0.data = .fields #[.ref K.X,.int (0:Nat) 0])
    (h4:tx.length = 4) (hF:Fine B tx) (hB:B + 32 ≤ 200) (hE:PassesOwn K.C.M K.A K.env E)
    (post:∀ h' tk loc' tx' xs',LI { K with X:=K.S,xs:=xs' } loc' tx' its h'→tx'.length = 4→Fine (B + 32) tx'→Q .next { s with heap:=h',toks:=tk }) :
    codeAny K.C.M K.A (.forLoop (.Name "x" { line:=319,col:=8,endLine:=319,endCol:=9 }) (.ref IT) (forBody (lst 2)) [] K.env) (fun r s'=>match r with | .ok f=>Q f s' | .error e=>cameBackBy K.C.M K.A K.env E e s') { s with heap:=H2,toks:=t₁ }:=by
  have isit:∀ {o:Obj} {i:Nat},o.cls = .type "list_iterator"→o.data = .fields #[.ref K.X,.int i 0]→IsIt o:=fun h1 h2=>⟨.inl h1,_,h2⟩
  refine codeAny_forLoop (fun k s'=>∃ h tk i o loc tx,s' = { s with heap:=h,toks:=tk }∧LI K loc tx ((IT,o) :: its) h∧o.cls = .type "list_iterator"∧o.data = .fields #[.ref K.X,.int (i:Nat) 0]∧tx.length = 4∧Fine (B + 4 * i) tx∧i ≤ K.xs.length∧k = K.xs.length + 1 - i) ?_ (K.xs.length + 1)
    ⟨H2,t₁,0,o0,loc,tx,rfl,I2.keep (isit hc0 hd0) hg0,hc0,hd0,h4,hF,Nat.zero_le _,rfl⟩
  rintro k s' ⟨h,tk,i,o,loc,tx,rfl,I',hc,hd,h4',hF',hi,rfl⟩
  refine wpAny_passesOwn hE ?_
  have hit':h.IsListIter IT K.X i:=⟨o,I'.it,hc,hd⟩
  have hB4:B + 4 * i ≤ B + 32:=Nat.add_le_add_left (Nat.mul_le_mul_left 4 (Nat.le_trans hi hlen)) B
  cases hv:K.xs.toArray[i]? with
  | none =>
    refine wpAny_pyNext_list_end S1.hd hit' I'.xl hv fun h₃ he₃=>wpAny_execs_nil ?_
    have I3:=I'.lose (q:=(IT,o)) fb fi he₃
    obtain ⟨ws,hSl,hSi⟩:=I3.sl
    exact post h₃ tk loc tx ws (LI.unX I3 hSl) h4' (fun y hy=>⟨Nat.le_trans (hF' y hy).1 hB4,(hF' y hy).2⟩)
  | some v =>
    have hlt:i < K.xs.length:=(Array.getElem?_eq_some_iff.mp hv).1
    refine wpAny_pyNext_list_item hit' I'.xl hv fun h₃ hit₃ hs₃=>?_
    obtain ⟨o₃,g₃,c₃,d₃⟩:=hit₃
    have I3:=(I'.lose (q:=(IT,o)) fb fi fun b ob hb e=>(hs₃.2 b hb).trans e).keep (q:=(IT,o₃)) (isit c₃ d₃) g₃
    obtain ⟨n,t,rfl⟩:=hint i v (by simpa using hv)
    refine wpAny_assign_Name ?_
    refine lw_store (s:={ s with heap:=h₃,toks:=tk }) I3 (by decide) (.int n t) rfl (by decide) (by decide) fun h₄ t₄ I4=>?_
    refine wpAny_passesOwn hE ?_
    exact body1_ok (s:={ s with heap:=h₄,toks:=t₄ }) S1 Z1 I4 (x:=n) rfl h4' hF' (Nat.le_trans hB4 (Nat.le_trans hB (by decide))) fun h₅ t₅ loc' tx' I5 h45 hF5 =>
      ⟨K.xs.length + 1 - (i + 1),Nat.sub_lt_sub_left (Nat.lt_succ_of_le hi) (Nat.lt_succ_self i),h₅,t₅,i + 1,o₃,loc',tx',rfl,I5,c₃,d₃,h45,hF5,hlt,rfl⟩
theorem loop1_ok {s:Shared} {B:Nat} {Q:Flow→Shared→Prop} {E:Value→Shared→Prop} (S:Ls K) (Z:Lp K) (I:LI K loc tx its s.heap) (h4:tx.length = 4) (hF:Fine B tx) (hB:B + 32 ≤ 200) (hsc:K.sc.length ≤ 63) (hE:PassesOwn K.C.M K.A K.env E)
    (post:∀ h' tk loc' tx' xs',LI { K with X:=K.S,xs:=xs' } loc' tx' its h'→tx'.length = 4→Fine (B + 32) tx'→Q .next { s with heap:=h',toks:=tk }):wpAny K.C.M K.A (exec (lst 2) K.env) Q E s:=by
  have hne:tx ≠ []:=fun q=>by rw [q] at h4;cases h4
  refine wpAny_For (body:=forBody (lst 2)) (Ev.cutL (K:=K) (ns:=K.sc) (u:=some 8) (ht:=fun _ _=>rfl) Ev.script EvP.no (EvP.of Ev.cint) (fun vs h=>slice_ints_uptoW h (by decide)) (by lia) s _ _ I fun v h₁ t₁ x1 I1 r1=>?_) (fun _=>rfl)
  obtain ⟨ax,vs,rfl,hL,hr⟩:=r1.list_inv
  have hI:=rd_ints hr
  have hlen:vs.length ≤ 8:=by rw [hr.length,List.length_map,List.length_take];lia
  have hTX:K.T ≠ ax:=fun q=>by
    obtain ⟨ws,hO,hw⟩:=I1.tl
    have:=list_same (q ▸ hO.isList) hL
    have e:ws = vs:=by simpa using this
    subst e
    exact int_str (h:=h₁) hne hI hw
  obtain ⟨fb,fi⟩:=I1.fresh (Nat.le_refl _)
  refine wpAny_pyIter_list (s:={ s with heap:=h₁,toks:=t₁ }) hL ?_
  have x2:=Ext.push I1.stays { cls:=.type "list_iterator",data:=.fields #[.ref ax,.int 0 0] }
  have I2:=(I1.ext x2).reX (isList_up hL x2.2)
  have hint:∀ (i:Nat) (v:Value),vs[i]? = some v→∃ n t,v = .int n t:=fun i v hv=>by
    have hlt:i < (K.sc.take 8).length:=by
      have:=(List.getElem?_eq_some_iff.mp hv).1
      rwa [hr.length,List.length_map] at this
    obtain ⟨v',e1,e2⟩:=hr.get (show ((K.sc.take 8).map PyData.int)[i]? = some (.int ((K.sc.take 8)[i]'hlt)) by rw [List.getElem?_map,List.getElem?_eq_getElem hlt];rfl)
    rw [hv] at e1;cases e1
    obtain ⟨t,rfl⟩:=e2.int_inv
    exact ⟨_,t,rfl⟩
  exact loop1_go (K:={ K with X:=ax,xs:=vs }) ⟨S.G,S.hd,S.nT,S.TP,S.TS,hTX⟩ ⟨Z.n48,Z.fine,Z.len,Z.max,Z.range,Z.enumerate⟩ fb fi hint hlen I2 (Heap.get?_push_size _ rfl) rfl rfl h4 hF hB hE post
end
end Mine
end
section
set_option tactic.hygienic false
open PySem PySem.W PyProof.Rows PySem.Spec PySem.Calls PySem.Builtin PySem.Builtin.Str
namespace Mine
noncomputable def pick (K:Lw) (n:Int):List Nat:=K.pc.getD (n.fmod 48).toNat []
theorem join_mk:∀ ts:List (List Nat),Txt.join (mk []) (ts.map mk) = mk ts.flatten:=fun ts=>by
  show glued (mk []) (ts.map mk) = _
  rw [StrLaws.glued_eq_join]
  induction ts with
  | nil=>rfl
  | cons t ts ih =>
    cases ts with
    | nil=>simp [Str.join]
    | cons u ts =>
      show mk t ++ mk [] ++ Str.join (mk []) ((u :: ts).map mk) = _
      rw [ih,mk_app,mk_app]
      simp
theorem paired_strs {K:Lw} {F:Value→Value→Prop} (hF:∀ n t y,F (.int n t) y→∃ t',y = .str (mk (pick K n)) t') {vs:List Value} {ns:List Int} {ys:List Value} (hi:IntsAre vs ns) (hp:Paired F vs ys):∃ l:List (Str × Tok),ys = strValues l∧l.map (·.1) = (ns.map (pick K)).map mk:=by
  induction hi generalizing ys with
  | nil=>cases hp;exact ⟨[],rfl,rfl⟩
  | cons n t r ih =>
    cases hp with
    | cons h p =>
      obtain ⟨t',rfl⟩:=hF n t _ h
      obtain ⟨l,rfl,e⟩:=ih p
      exact ⟨(mk (pick K n),t') :: l,rfl,congrArg (mk (pick K n) :: ·) e⟩
theorem flat_bd {B:Nat}:∀ {ts:List (List Nat)},Fine B ts→ts.flatten.length ≤ ts.length * B∧okc ts.flatten
  | [],_=>⟨Nat.zero_le _,okc_nil⟩
  | t :: ts,h=>by
    have h1:=h t (List.mem_cons_self ..)
    have h2:=flat_bd (ts:=ts) fun y hy=>h y (List.mem_cons_of_mem _ hy)
    refine ⟨?_,?_⟩
    · rw [List.flatten_cons,List.length_append,List.length_cons,Nat.add_mul]
      lia
    · rw [List.flatten_cons];exact okc_app h1.2 h2.2
section
variable {K:Lw} {loc:Str→Option PyData} {tx:List (List Nat)} {its:List (Addr × Obj)}
theorem pick_fine (Z:Lp K) (n:Int):(pick K n).length ≤ 4∧okc (pick K n):=fine_get Z.fine _
theorem comp_ok {iter:Expr} {cscope:Scope} {pos px p1 p2 p3 p4 p5:Pos} {k1:Nat} {ns:List Int} {s:Shared} {Q E:Value→Shared→Prop} (S:Ls K) (Z:Lp K) (I:LI K loc tx its s.heap) (hit:Ev K loc tx its iter (.list (ns.map .int))) (hn:ns.length ≤ 1000)
    (hsc:cscope = { kind:=.function,names:=[(".0",.local),("x",.local),("pieces",.free)],isGenerator:=false,isCoroutine:=false })
    (post:∀ D h' tk (l:List (Str × Tok)),Ext K.C.base s.heap h'→LI K loc tx its h'→h'.IsList D (strValues l).toArray→l.map (·.1) = (ns.map (pick K)).map mk→Q (.ref D) { s with heap:=h',toks:=tk })
    (hs:∀ x,foldedSetIterable iter K.env x = pure x:=by intro _;rfl) :
    wpAny K.C.M K.A (eval (.ListComp (.Subscript (.Name "pieces" p1) (.BinOp (.Name "x" p2) .Mod (.Constant (.int 48) k1 p3) p4) p5) [⟨.Name "x" px,iter,[],0⟩] cscope pos) K.env) Q E s:=by
  subst hsc
  refine wpAny_ListComp_free (cl:=[("pieces",K.L + 1)]) (fun _=>true) (fun v y=>∀ n t,v = .int n t→∃ t',y = .str (mk (pick K n)) t') rfl (by decide) rfl (by decide) rfl
    (hit s _ _ I fun v h₁ t₁ x1 I1 r1=>?_) hs
  obtain ⟨ax,vs,rfl,hL,hr⟩:=r1.list_inv
  have hI:=rd_ints hr
  refine wpAny_pyIter_list (s:={ s with heap:=h₁,toks:=t₁ }) hL ?_
  obtain ⟨fb,fi⟩:=I1.fresh (Nat.le_refl _)
  obtain ⟨ol,hol,hol'⟩:=id hL
  have hax:ax ≠ h₁.objs.size:=Nat.ne_of_lt (Heap.lt_size hol)
  have gI:=Heap.get?_push_size h₁ (o:={ cls:=.type "list_iterator",data:=.fields #[.ref ax,.int 0 0] }) rfl
  refine ⟨h₁.objs.size,[h₁.objs.size,ax],[h₁.objs.size],vs.toArray.size,_,_,rfl,Walks.list S.hd _ ax hax vs.toArray,?_,⟨⟨_,gI,rfl,rfl⟩,hL.push _⟩,fun b hb=>?_,⟨?_,?_⟩,?_⟩
  · rw [List.size_toArray,hr.length,List.length_map];exact small_fits (by lia)
  · show b < (h₁.push _).objs.size
    rw [Heap.size_push]
    rcases List.mem_cons.mp hb with rfl | hb
    · exact Nat.lt_succ_self _
    · rcases List.mem_cons.mp hb with rfl | hb
      · exact Nat.lt_succ_of_lt (Heap.lt_size hol)
      · cases hb
  · intro C i v s₃ m₃ E' _ _ _ _ _ _
    exact wpAny_pure ⟨rfl,s₃.heap,s₃.toks,rfl,fun _ _ e=>e⟩
  · intro C i v s₃ m₃ E' _ hv _ hns hm hk _
    obtain ⟨n,hvn⟩:∃ n t,v = .int n t:=by
      have hv':vs[i]? = some v:=by simpa using hv
      have hlt:i < ns.length:=by
        have:=(List.getElem?_eq_some_iff.mp hv').1
        rw [hr.length,List.length_map] at this;exact this
      obtain ⟨v',e1,e2⟩:=hr.get (k:=i) (d:=.int ns[i]) (by rw [List.getElem?_map,List.getElem?_eq_getElem hlt];rfl)
      rw [hv'] at e1;cases e1
      obtain ⟨t,rfl⟩:=e2.int_inv
      exact ⟨_,t,rfl⟩
    obtain ⟨t,rfl⟩:=hvn
    obtain ⟨pv,hP,hpr⟩:=id I1.pl
    obtain ⟨oP,gP,rP⟩:=id hP
    obtain ⟨oc,gc,rc⟩:=id I1.cell
    have up:∀ b o,h₁.get? b = some o→s₃.heap.get? b = some o:=fun b o e=>hk b o (fun q=>by
      rcases List.mem_cons.mp q with rfl | q
      · have:=Heap.lt_size e;exact Nat.lt_irrefl _ this
      · cases q) (Heap.get?_push_of_some _ e)
    have hP3:s₃.heap.IsList K.P pv.toArray:=⟨oP,up _ _ gP,rP⟩
    have hC3:s₃.heap.IsCell (K.L + 1) (some (.ref K.P)):=⟨oc,up _ _ gc,rc⟩
    have r48:=fmod_rng n (k:=48) (by lia)
    have hi:(n.fmod 48).toNat < K.pc.length:=by rw [Z.n48];lia
    obtain ⟨pvv,e1,e2⟩:=hpr.get (k:=(n.fmod 48).toNat) (d:=Sx (pick K n)) (by
      rw [List.getElem?_map,List.getElem?_eq_getElem hi]
      unfold pick
      rw [List.getD_eq_getElem?_getD,List.getElem?_eq_getElem hi];rfl)
    obtain ⟨t',rfl⟩:=Rd.str_inv e2
    refine Subscript_ (wpAny_Name (wpAny_loadName_cell rfl rfl rfl hC3 ?_) (by decide))
    refine wpAny_BinOp (wpAny_Name (wpAny_loadName_local rfl rfl hns hm ?_) (by decide))
    refine wpAny_Constant_int ?_
    refine mod_int' (by decide) ?_
    refine tail_any (ops:=_) (Heap.IsList.typeIs (s:={ s₃ with toks:=_ }) hP3) slot_list_getitem.lookup (wpAny_getItem_list (s:={ s₃ with toks:=_ }) hP3 r48.1 (by lia) (by simpa using e1) ?_) rfl
    exact ⟨fun n' t'' q=>by cases q;exact ⟨t',rfl⟩,s₃.heap,_,rfl,fun _ _ e=>e⟩
  · intro D h' tk ys ws hD hl hpl hlen hP hF hk
    have hws:ws = vs:=by
      refine List.ext_getElem? fun j=>?_
      cases q:ws[j]? with
      | none =>
        have h1:ws.length ≤ j:=by simpa using q
        rw [hlen,List.size_toArray] at h1
        rw [List.getElem?_eq_none h1]
      | some v=>have:=hP j v q;simpa using this.symm
    subst hws
    have hfl:ws.filter (fun _=>true) = ws:=by simp
    rw [hfl] at hF
    obtain ⟨l,el,em⟩:=paired_strs (K:=K) (fun n t y h=>h n t rfl) hI hF
    have eys:ys = (strValues l).toArray:=by rw [← el]
    subst eys
    have kk:∀ b o,h₁.get? b = some o→h'.get? b = some o:=fun b o e=>hk b o (fun q=>by
      rcases List.mem_cons.mp q with rfl | q
      · have:=Heap.lt_size e;exact Nat.lt_irrefl _ this
      · cases q) (Heap.get?_push_of_some _ e)
    have x2:Ext K.C.base h₁ h':=.of_keeps I1.stays kk
    exact post D h' tk l (x1.trans x2) (I1.ext x2) hl em
end
end Mine
end
section
set_option tactic.hygienic false
open PySem PySem.W PyProof.Rows PySem.Spec PySem.Calls PySem.Builtin PySem.Builtin.Str
namespace Mine
theorem small_r:Builtin.Range.small 8 63 11 = true:=by decide +kernel
theorem size_r:Builtin.Range.rangeSize 8 63 11 = 5:=by decide
section
variable {K:Lw} {loc:Str→Option PyData} {tx:List (List Nat)} {its:List (Addr × Obj)}
theorem append_ok {cexp:Expr} {p1 p2 p3 p4 p5 p6 p7:Pos} {k1:Nat} {ts:List (List Nat)} {s:Shared} {Q:Flow→Shared→Prop} {E:Value→Shared→Prop} (S:Ls K) (I:LI K loc tx its s.heap) (hts:Fine 4 ts) (hl:ts.length ≤ 1000) (htx:tx.length ≤ 1000)
    (hc:∀ (s:Shared) (Q E:Value→Shared→Prop),LI K loc tx its s.heap→(∀ D h' tk (l:List (Str × Tok)),Ext K.C.base s.heap h'→LI K loc tx its h'→h'.IsList D (strValues l).toArray→l.map (·.1) = ts.map mk→Q (.ref D) { s with heap:=h',toks:=tk })→wpAny K.C.M K.A (eval cexp K.env) Q E s)
    (post:∀ h' tk,LI K loc (tx ++ [ts.flatten]) its h'→Q .next { s with heap:=h',toks:=tk })
    (he:starEach [cexp] K.env = [(false,eval cexp K.env)])
    (he2:starEach [.Call (.Attribute (.Constant (.str "") k1 p4) "join" p5) [cexp] [] p6] K.env = [(false,eval (.Call (.Attribute (.Constant (.str "") k1 p4) "join" p5) [cexp] [] p6) K.env)])
    {pl pl2:PySem.Sem Bool}
    (hw:swapsWith (.Call (.Attribute (.Name "texts" p1) "append" p2) [.Call (.Attribute (.Constant (.str "") k1 p4) "join" p5) [cexp] [] p6] [] p3) none p7.line K.env = pure false)
    (hc1:eval (.Call (.Attribute (.Name "texts" p1) "append" p2) [.Call (.Attribute (.Constant (.str "") k1 p4) "join" p5) [cexp] [] p6] [] p3) K.env = (do
      let ov ← eval (.Name "texts" p1) K.env
      standAt p2.atName
      let (f,first) ← holding [ov] (getMethod ov "append" pl)
      callWith p3 f first (backTo p3 (starEach [.Call (.Attribute (.Constant (.str "") k1 p4) "join" p5) [cexp] [] p6] K.env)) []))
    (hc2:eval (.Call (.Attribute (.Constant (.str "") k1 p4) "join" p5) [cexp] [] p6) K.env = (do
      let ov ← eval (.Constant (.str "") k1 p4) K.env
      standAt p5.atName
      let (f,first) ← holding [ov] (getMethod ov "join" pl2)
      callWith p6 f first (backTo p6 (starEach [cexp] K.env)) [])) :
    wpAny K.C.M K.A (exec (.Expr (.Call (.Attribute (.Name "texts" p1) "append" p2) [.Call (.Attribute (.Constant (.str "") k1 p4) "join" p5) [cexp] [] p6] [] p3) p7) K.env) Q E s:=by
  refine wpAny_Expr ?_ rfl hw
  refine MethodCall_ (pl:=pl) ?_ hc1
  obtain ⟨m,F,e1,e2,_⟩:=id I.loc
  obtain ⟨vs,hO,hr⟩:=id I.tl
  obtain ⟨oa,oa1,oa2,oa3,na,oa4⟩:=id hO
  refine ldLoc F e2 (getMethod_list_append oa1 oa2 oa3 ?_) rfl (show (scopeOf (stm 32)).names.lookup ("texts":Str) = some .local by decide) (by decide)
  refine callWith_method1 ?_ he2
  refine args_cons ?_ he2
  refine MethodCall_ (pl:=pl2) ?_ hc2
  refine Constant_str ?_
  refine GM.join ?_
  refine callWith_method1 ?_ he
  refine args_cons ?_ he
  refine hc _ _ _ I fun D h' tk l x1 I1 hD hlm=>?_
  refine args_nil ?_
  have hjo:JoinOk (mk []) (ts.map mk) = true:=by
    unfold JoinOk
    rw [Bool.not_eq_true']
    refine StrLaws.joinFits (B:=4) (fun y hy=>?_) (by rw [List.length_map];show _ + _ * (mk []).length ≤ _;rw [mk_len];simp;lia)
    obtain ⟨t,ht,rfl⟩:=List.mem_map.mp hy
    rw [mk_len];exact (hts t ht).1
  refine SC.join (x:=mk []) (s:={ s with heap:=h',toks:=tk }) hD hlm hjo fun t' k=>?_
  rw [join_mk]
  refine args_nil ?_
  have hO1:OwnL h' K.T vs.toArray:=hO.up x1.2
  refine own_append (C:=K.C) (s:={ s with heap:=h',toks:=k }) hO1 (fun h2 hO2 sb=>?_) (by rw [List.size_toArray,hr.length,List.length_map];exact small_fits (by lia))
  refine post h2 k (I1.texts S (tx':=tx ++ [ts.flatten]) sb (vs':=vs ++ [.str (mk ts.flatten) t']) (by simpa using hO2) ?_)
  rw [List.map_append]
  exact (strs_rd hr).append (.cons (.str _ _) .nil)
end
end Mine
end
section
set_option tactic.hygienic false
open PySem PySem.W PyProof.Rows PySem.Spec PySem.Calls PySem.Builtin PySem.Builtin.Str
namespace Mine
section
variable {K:Lw} {loc:Str→Option PyData} {tx:List (List Nat)} {its:List (Addr × Obj)}
theorem body2_ok {s:Shared} {j:Int} {B:Nat} {Q:Flow→Shared→Prop} {E:Value→Shared→Prop} (S:Ls K) (Z:Lp K) (I:LI K loc tx its s.heap) (hx:loc "first" = some (.int j)) (hj:0 ≤ j) (htx:tx.length ≤ 100) (hF:Fine B tx) (hB:44 ≤ B) (hsc:K.sc.length ≤ 63)
    (post:∀ h' tk t,LI K loc (tx ++ [t]) its h'→Fine B (tx ++ [t])→Q .next { s with heap:=h',toks:=tk }):wpAny K.C.M K.A (execs (forBody (lst 3)) K.env) Q E s:=by
  have evf:∀ {p:Pos},Ev K loc tx its (.Name "first" p) (.int j):=Ev.name hx (by decide) (by decide)
  generalize hms:(K.sc.drop j.toNat).take (min (j + 11).toNat K.sc.length - j.toNat) = ms
  have hml:ms.length ≤ 11:=by
    rw [← hms]
    refine Nat.le_trans (List.length_take_le _ _) (Nat.le_trans (Nat.sub_le_sub_right (Nat.min_le_left _ _) _) ?_)
    rw [Int.toNat_add hj (by decide),Nat.add_sub_cancel_left]
    decide
  have hfine:Fine 4 (ms.map (pick K)):=fun y hy=>by
    obtain ⟨n,_,rfl⟩:=List.mem_map.mp hy
    exact pick_fine Z n
  have hbd:=flat_bd hfine
  rw [List.length_map] at hbd
  refine wpAny_execs_cons (append_ok (ts:=ms.map (pick K)) S I hfine (by rw [List.length_map];lia) (by lia) (fun s Q E I post=>?_) (fun h' tk I'=>?_) rfl rfl rfl rfl rfl)
  · exact comp_ok S Z I (Ev.cutL (K:=K) (ns:=K.sc) (ms:=ms) (ht:=fun _ _=>rfl) Ev.script (EvP.of evf) (EvP.of (Ev.bin BinOk.add S evf Ev.cint rfl)) (fun vs h=>by rw [← hms];exact kmk_run h hj (by lia)) (by lia)) (by lia) rfl post (fun _=>rfl)
  · dsimp only
    refine wpAny_execs_nil (post h' tk _ I' fun y hy=>?_)
    rcases List.mem_append.mp hy with h | h
    · exact hF y h
    · rw [List.mem_singleton] at h
      subst h
      exact ⟨by lia,hbd.2⟩
theorem range_it (a b c:Int):IsIt { cls:=.type "range_iterator",dict:=none,data:=.fields #[rawInt a,rawInt b,rawInt c],slots:=#[] }:=⟨.inr (.inl rfl),_,rfl⟩
theorem loop2_go {s:Shared} {B t₁:Nat} {Q:Flow→Shared→Prop} {E:Value→Shared→Prop} {IT:Addr} {H3:Heap} (S:Ls K) (Z:Lp K) (fb:K.C.base.get? IT = none) (fi:∀ p ∈ its,p.1 ≠ IT) (I3:LI K loc tx its H3) (hit:IsRangeIter H3 IT 8 5 11)
    (h4:tx.length = 4) (hF:Fine B tx) (hB:44 ≤ B) (hsc:K.sc.length ≤ 63) (hE:PassesOwn K.C.M K.A K.env E)
    (post:∀ h' tk loc' tx',LI K loc' tx' its h'→tx'.length = 9→Fine B tx'→Q .next { s with heap:=h',toks:=tk }) :
    codeAny K.C.M K.A (.forLoop (.Name "first" { line:=323,col:=8,endLine:=323,endCol:=13 }) (.ref IT) (forBody (lst 3)) [] K.env) (fun r s'=>match r with | .ok f=>Q f s' | .error e=>cameBackBy K.C.M K.A K.env E e s') { s with heap:=H3,toks:=t₁ }:=by
  refine codeAny_forLoop (fun k s'=>∃ h tk j loc tx,s' = { s with heap:=h,toks:=tk }∧LI K loc tx ((IT,{ cls:=.type "range_iterator",dict:=none,data:=.fields #[rawInt j,rawInt (k:Int),rawInt 11],slots:=#[] }) :: its) h∧0 ≤ j∧tx.length + k = 9∧Fine B tx) ?_ 5
    ⟨H3,t₁,8,loc,tx,rfl,I3.keep (range_it _ _ _) hit,by decide,by rw [h4],hF⟩
  rintro k s' ⟨h,tk,j,loc,tx,rfl,I',hj,hk,hF'⟩
  refine wpAny_passesOwn hE ?_
  have hit':IsRangeIter h IT j k 11:=I'.it
  cases k with
  | zero =>
    refine wpAny_pyNext_range_end S.hd hit' (by simp) fun h' he'=>wpAny_execs_nil ?_
    exact post h' tk loc tx (I'.lose fb fi he') (by lia) hF'
  | succ k =>
    refine wpAny_pyNext_range_item hit' (by lia) fun h' hit₂ sb₂=>?_
    have I₂:=(I'.lose fb fi (fun b ob hb e=>(sb₂.2 b hb).trans e)).keep (q:=(IT,{ cls:=.type "range_iterator",dict:=none,data:=.fields #[rawInt (j + 11),rawInt (k:Int),rawInt 11],slots:=#[] })) (range_it _ _ _) (by rw [show ((k:Nat):Int) = ((k + 1:Nat):Int) - 1 by lia];exact hit₂)
    refine wpAny_assign_Name ?_
    refine lw_store (K:=K) (s:={ s with heap:=h',toks:=tk + 1 }) I₂ (by decide) (.int j tk) rfl (by decide) (by decide) fun h₄ t₄ I4=>?_
    refine wpAny_passesOwn hE ?_
    exact body2_ok (s:={ s with heap:=h₄,toks:=t₄ }) S Z I4 (j:=j) rfl hj (by lia) hF' hB hsc fun h₅ t₅ t I5 hF5 =>
      ⟨k,Nat.lt_succ_self _,h₅,t₅,j + 11,_,_,rfl,I5,by lia,by simp;lia,hF5⟩
theorem loop2_ok {s:Shared} {B:Nat} {Q:Flow→Shared→Prop} {E:Value→Shared→Prop} (S:Ls K) (Z:Lp K) (I:LI K loc tx its s.heap) (h4:tx.length = 4) (hF:Fine B tx) (hB:44 ≤ B) (hsc:K.sc.length ≤ 63) (hE:PassesOwn K.C.M K.A K.env E)
    (post:∀ h' tk loc' tx',LI K loc' tx' its h'→tx'.length = 9→Fine B tx'→Q .next { s with heap:=h',toks:=tk }):wpAny K.C.M K.A (exec (lst 3) K.env) Q E s:=by
  refine wpAny_For (body:=forBody (lst 3)) (Call_ ?_ rfl) (fun _=>rfl)
  refine lw_blt S.G I.stays Z.range (v:=.type "range") rfl (by decide) (by decide) (by decide) ?_
  refine PyProof.Rows.callWith_type1 (Eas.cons (d:=.int 8) Ev.cint (Eas.cons (d:=.int 63) Ev.cint (Eas.cons (d:=.int 11) Ev.cint Eas.nil)) rfl _ s _ _ I fun vs h₁ t₁ x1 I1 r1=>?_) rfl rfl
  obtain ⟨va,_,rfl,ra,r2⟩:=r1.cons_inv
  obtain ⟨vb,_,rfl,rb,r3⟩:=r2.cons_inv
  obtain ⟨vc,_,rfl,rc,r4⟩:=r3.cons_inv
  obtain rfl:=r4.nil_inv
  obtain ⟨ta,rfl⟩:=ra.int_inv
  obtain ⟨tb,rfl⟩:=rb.int_inv
  obtain ⟨tc,rfl⟩:=rc.int_inv
  refine call_range_3 (s:={ s with heap:=h₁,toks:=t₁ }) (by decide) ?_ (Or.inl (PyProof.noPylong_small (by decide)))
  have x2:=Ext.push I1.stays { cls:=.type "range",data:=.fields #[.int 8 ta,.int 63 tb,.int 11 tc] }
  have I2:=I1.ext x2
  refine wpAny_pyIter_range (IsRange.new ..) small_r ?_
  obtain ⟨fb,fi⟩:=I2.fresh (Nat.le_refl _)
  have x3:=Ext.push I2.stays { cls:=.type "range_iterator",data:=.fields #[rawInt 8,rawInt (Builtin.Range.rangeSize 8 63 11),rawInt 11] }
  have I3:=I2.ext x3
  have hit:IsRangeIter ((h₁.push { cls:=.type "range",data:=.fields #[.int 8 ta,.int 63 tb,.int 11 tc] }).push { cls:=.type "range_iterator",data:=.fields #[rawInt 8,rawInt (Builtin.Range.rangeSize 8 63 11),rawInt 11] })
    (h₁.push { cls:=.type "range",data:=.fields #[.int 8 ta,.int 63 tb,.int 11 tc] }).objs.size 8 5 11:=by
    rw [size_r]
    exact Heap.get?_push_size _ rfl
  exact loop2_go S Z fb fi I3 hit h4 hF hB hsc hE post
end
end Mine
end
section
set_option tactic.hygienic false
open PySem PySem.W PyProof.Rows PySem.Spec PySem.Calls PySem.Builtin PySem.Builtin.Str
namespace Mine
theorem LI.butS {K:Lw} {loc:Str→Option PyData} {tx:List (List Nat)} {its:List (Addr × Obj)} {h h':Heap} {p:Addr→Prop} (I:LI K loc tx its h) (hb:∀ a,p a→K.C.base.get? a = none) (aL:¬ p K.L) (ac:¬ p (K.L + 1)) (aP:¬ p K.P) (aS:¬ p K.S) (aT:¬ p K.T) (aX:¬ p K.X) (hi:∀ q ∈ its,¬ p q.1) (k:∀ b o,¬ p b→h.get? b = some o→h'.get? b = some o):LI K loc tx its h':=by
  obtain ⟨m,F,e1,e2,hv⟩:=I.loc
  obtain ⟨v1,⟨o1,p1,q1⟩,b1⟩:=I.pl
  obtain ⟨v2,⟨o2,p2,q2⟩,b2⟩:=I.sl
  obtain ⟨v3,⟨o3,p3,q3⟩,b3⟩:=I.tl
  obtain ⟨o4,p4,q4⟩:=I.cell
  obtain ⟨o5,p5,q5⟩:=I.xl
  have st:K.C.base.StaysIn h':=fun b o e=>k _ _ (fun q=>by rw [hb _ q] at e;cases e) (I.stays b o e)
  exact ⟨st,⟨m,⟨F.ns.at' fun o e=>k _ _ aL e,st,F.above⟩,e1,e2,fun y d e=>⟨(hv y d e).1,let ⟨v,q,r⟩:=(hv y d e).2;⟨v,q,flat_rd (hv y d e).1 r⟩⟩⟩,⟨o4,k _ _ ac p4,q4⟩,⟨v1,⟨o1,k _ _ aP p1,q1⟩,strs_rd b1⟩,⟨v2,⟨o2,k _ _ aS p2,q2⟩,b2⟩,⟨v3,⟨o3,k _ _ aT p3,q3⟩,strs_rd b3⟩,⟨o5,k _ _ aX p5,q5⟩,
    fun p hp=>⟨(I.kept p hp).1,k _ _ (hi p hp) (I.kept p hp).2⟩⟩
section
variable {K:Lw} {loc:Str→Option PyData} {tx:List (List Nat)} {its:List (Addr × Obj)} {h h':Heap}
theorem LI.ne_it {q:Addr × Obj} (I:LI K loc tx its h) (hi:IsIt q.2) (e0:h.get? q.1 = some q.2):K.L ≠ q.1∧K.L + 1 ≠ q.1∧K.P ≠ q.1∧K.S ≠ q.1∧K.T ≠ q.1∧K.X ≠ q.1:=by
  obtain ⟨ic,vs,hd⟩:=hi
  have ne:∀ b o,h.get? b = some o→(∀ w,o.data ≠ .fields w)→b ≠ q.1:=fun b o e n w=>by
    subst w;rw [e0] at e;cases e;exact n _ hd
  obtain ⟨m,F,e1,e2,hv⟩:=I.loc
  obtain ⟨v1,⟨o1,p1,_,n1,q1⟩,b1⟩:=I.pl
  obtain ⟨v2,⟨o2,p2,_,n2,q2⟩,b2⟩:=I.sl
  obtain ⟨v3,⟨o3,p3,_,_,n3,q3⟩,b3⟩:=I.tl
  obtain ⟨o4,p4,q4⟩:=I.cell
  obtain ⟨o5,p5,_,n5,q5⟩:=I.xl
  obtain ⟨oL,es,ep,hL,hLd,_⟩:=F.ns
  exact ⟨(ne _ _ hL fun w z=>by rw [hLd] at z;cases z),(ne _ _ p4 fun w z=>by rw [q4] at z;cases z),(ne _ _ p1 fun w z=>by rw [q1] at z;cases z),(ne _ _ p2 fun w z=>by rw [q2] at z;cases z),(ne _ _ p3 fun w z=>by rw [q3] at z;cases z),(ne _ _ p5 fun w z=>by rw [q5] at z;cases z)⟩
theorem LI.lose2 {q r:Addr × Obj} (I:LI K loc tx (q :: r :: its) h) (hb:K.C.base.get? q.1 = none) (hb2:K.C.base.get? r.1 = none) (hn:∀ p ∈ its,p.1 ≠ q.1) (hn2:∀ p ∈ its,p.1 ≠ r.1) (k:∀ b o,b ≠ q.1→b ≠ r.1→h.get? b = some o→h'.get? b = some o):LI K loc tx its h':=by
  have I0:=I.unkeep.unkeep
  have a:=I0.ne_it (I.kept q (.head _)).1 (I.kept q (.head _)).2
  have b:=I0.ne_it (I.kept r (.tail _ (.head _))).1 (I.kept r (.tail _ (.head _))).2
  have no:∀ {x:Addr},x ≠ q.1→x ≠ r.1→¬ (x = q.1 ∨ x = r.1):=fun h1 h2 h=>h.elim h1 h2
  exact I0.butS (p:=fun x=>x = q.1 ∨ x = r.1) (fun a h=>by rcases h with rfl | rfl;exact hb;exact hb2) (no a.1 b.1) (no a.2.1 b.2.1) (no a.2.2.1 b.2.2.1) (no a.2.2.2.1 b.2.2.2.1) (no a.2.2.2.2.1 b.2.2.2.2.1) (no a.2.2.2.2.2 b.2.2.2.2.2)
    (fun p hp=>no (hn p hp) (hn2 p hp)) (fun b o h e=>k b o (fun q=>h (.inl q)) (fun q=>h (.inr q)) e)
theorem Ev.tup {es:List Expr} {k:Nat} {p:Pos} {ds:List PyData} (h:Eas K loc tx its es ds) (hl:ds.length ≤ 1000):Ev K loc tx its (.Tuple es k p) (.tuple ds):=fun s Q E I post=>by
  refine Tuple_ (h _ s _ _ I fun vs h₁ t₁ x1 I1 r1=>?_)
  refine newTuple_rd (C:=K.C) (s:={ s with heap:=h₁,toks:=t₁ }) (d:=.tuple ds) I1.stays r1 (by unfold tupD;rw [if_pos (by lia)]) fun v h' tk x2 r2=>post v h' tk (x1.trans x2) (I1.ext x2) r2
theorem two_ok {s:Shared} {a b:List Nat} {p1 p2 p3 p4 p5:Pos} {k1 k2:Nat} {e f:Expr} {Q:Flow→Shared→Prop} {E:Value→Shared→Prop} (S:Ls K) (he:Ev K loc tx its e (Sx a)) (hf:Ev K loc tx its f (Sx b)) (I:LI K loc tx its s.heap)
    (post:∀ h' tk,LI K (fun y=>if y = "ahead" then some (Sx a) else if y = "later" then some (Sx b) else loc y) tx its h'→Q .next { s with heap:=h',toks:=tk })
    (he1:starEach [e,f] K.env = (false,eval e K.env) :: starEach [f] K.env) (he2:starEach [f] K.env = (false,eval f K.env) :: starEach [] K.env)
    (hs:swapsWithSole [.Tuple [.Name "ahead" p1,.Name "later" p2] k1 p3] (.Tuple [e,f] k2 p4) p5.line K.env = pure false)
    (hw:swappedStores [.Tuple [.Name "ahead" p1,.Name "later" p2] k1 p3] (.Tuple [e,f] k2 p4) K.env = pure (some [("ahead":Str),"later"])) :
    wpAny K.C.M K.A (exec (.Assign [.Tuple [.Name "ahead" p1,.Name "later" p2] k1 p3] (.Tuple [e,f] k2 p4) p5) K.env) Q E s:=by
  refine Assign_Tuple_swapped (names:=["ahead","later"]) (Ev.tup (Eas.cons he (Eas.cons hf Eas.nil he2) he1) (by simp) s _ _ I fun v h₁ t₁ x1 I1 r1=>?_) hs hw
  obtain ⟨at_,vs,rfl,ht,hr⟩:=r1.tuple_inv
  obtain ⟨va,_,rfl,ra,r2⟩:=hr.cons_inv
  obtain ⟨vb,_,rfl,rb,r3⟩:=r2.cons_inv
  obtain rfl:=r3.nil_inv
  have hlen:([("ahead":Str),"later"]).length = [va,vb].toArray.size:=rfl
  rw [hlen]
  refine unpackItems_tuple (s:={ s with heap:=h₁,toks:=t₁ }) S.hd ht fun h2 x2=>?_
  have x3:=Ext.of_new I1.stays x2
  have er:([("ahead":Str),"later"]).reverse = [("later":Str),"ahead"]:=rfl
  have ei:([va,vb].toArray.toList).reverse = [vb,va]:=rfl
  rw [er,ei,List.map_cons,List.map_cons,List.map_nil]
  refine assignInOrder_cons (bindName_ ?_)
  refine lw_store (K:=K) (s:={ s with heap:=h2,toks:=t₁ }) (I1.ext x3) (by decide) (rb.ext x3) rfl (by decide) (by decide) fun h3 t3 I3=>?_
  refine assignInOrder_cons (bindName_ ?_)
  refine lw_store (K:=K) (s:={ s with heap:=h3,toks:=t3 }) I3 (by decide) (flat_rd rfl ra) rfl (by decide) (by decide) fun h4 t4 I4=>?_
  exact assignInOrder_nil (post h4 t4 I4)
theorem Ev.call {n:Str} {f:Addr} {o:Obj} {fd:FuncData} {p p':Pos} {e:Expr} {es:List Expr} {ds:List PyData} {d:PyData} {N:Nat} (S:Ls K) (hR:Room K.A [K.env] N) (hc:CallOk K.C N n ds (.ok d)) (hn:K.C.mg n = some (.ref f)) (ho:K.C.base.get? f = some o) (hd:o.data = .func fd) (hl:(scopeOf (stm 32)).names.lookup n = some .globalImplicit) (hdb:(n == ("__debug__":Str)) = false)
    (ha:Eas K loc tx its (e :: es) ds) (he:starEach (e :: es) K.env = (false,eval e K.env) :: starEach es K.env)
    (hce:eval (.Call (.Name n p) (e :: es) [] p') K.env = (do callWith p' (← eval (.Name n p) K.env) [] (backTo p' (starEach (e :: es) K.env)) (backToKw p' (keywordEach [] K.env)))) :
    Ev K loc tx its (.Call (.Name n p) (e :: es) [] p') d:=fun s Q E I post=>by
  refine Call_ ?_ hce
  refine lw_glob S.G I.stays hn hl hdb ?_
  refine callWith_def hd (ha p' s _ _ I fun vs h₁ t₁ x1 I1 r1=>?_) he
  refine ⟨I1.stays _ _ ho,?_⟩
  exact hc f hn K.A [K.env] hR { s with heap:=h₁,toks:=t₁ } vs Q E I1.stays I1.size I1.frames r1 fun v h2 tk2 x2 r2=>post v h2 tk2 (x1.trans x2) (I1.ext x2) r2
structure Lt (K:Lw) (N:Nat):Prop where
  room:Room K.A [K.env] N
  fn:∃ f o fd,K.C.mg "_law_text_right" = some (.ref f)∧K.C.base.get? f = some o∧o.data = .func fd
  ok:∀ t a l:List Nat,t.length ≤ 81→a.length ≤ 81→l.length ≤ 81→okc t→CallOk K.C N "_law_text_right" [Sx t,Sx a,Sx l] (.ok (.bool true))
theorem body3_ok {s:Shared} {i N:Nat} {Q:Flow→Shared→Prop} {E:Value→Shared→Prop} (S:Ls K) (Z:Lp K) (T:Lt K N) (I:LI K loc tx its s.heap) (hp:loc "place" = some (.int i)) (ht:loc "text" = some (Sx (tx.getD i []))) (hi:i < tx.length) (htx:tx.length ≤ 100) (hF:Fine 81 tx)
    (post:∀ h' tk loc',LI K loc' tx its h'→Q .next { s with heap:=h',toks:=tk }):wpAny K.C.M K.A (execs (forBody (lst 4)) K.env) Q E s:=by
  obtain ⟨f,o,fd,f1,f2,f3⟩:=T.fn
  have hne:tx ≠ []:=fun q=>by rw [q] at hi;exact absurd hi (Nat.not_lt_zero _)
  generalize hti:tx.getD i [] = t at ht
  have g0:=fine_get hF i
  rw [hti] at g0
  have evp:∀ {p:Pos},Ev K loc tx its (.Name "place" p) (.int i):=Ev.name hp (by decide) (by decide)
  obtain ⟨a,ea,ga⟩:∃ a,itemD (.list (tx.map Sx)) (.int ((i:Int) - 1)) = some (Sx a)∧a.length ≤ 81:=by
    by_cases h0:i = 0
    · subst h0
      exact ⟨_,itemLneg hne (by lia),(fine_get hF _).1⟩
    · exact ⟨_,itemL (by lia) (by lia) (by lia),(fine_get hF _).1⟩
  have hlen:lenD (.list (tx.map Sx)) = some (.int tx.length):=by
    unfold lenD;dsimp only;rw [if_pos (by rw [List.length_map];lia),List.length_map]
  have rl:=fmod_rng ((i:Int) + 1) (k:=(tx.length:Int)) (by lia)
  generalize hz:((i:Int) + 1).fmod (tx.length:Int) = z at rl
  have el:=itemL (ds:=tx) (i:=z) rl.1 rl.2 (by lia)
  have gl:=fine_get hF z.toNat
  generalize tx.getD z.toNat [] = l at el gl
  have evz:∀ {p1 p2 p3 p4 p5 p6 p7:Pos} {k1:Nat},Ev K loc tx its (.BinOp (.BinOp (.Name "place" p1) .Add (.Constant (.int 1) k1 p2) p3) .Mod (.Call (.Name "len" p4) [.Name "texts" p5] [] p6) p7) (.int z):=by
    intro p1 p2 p3 p4 p5 p6 p7 k1
    exact Ev.bin BinOk.mod S (Ev.bin BinOk.add S evp Ev.cint rfl) (Ev.len S Z.len Ev.texts hlen) (by rw [← hz];exact modK (by lia))
  refine wpAny_execs_cons (two_ok S (Ev.index Ev.texts (Ev.bin BinOk.sub S evp Ev.cint rfl) ea) (Ev.index Ev.texts evz el) I (fun h₁ t₁ I1=>?_) rfl rfl rfl rfl)
  dsimp only
  obtain ⟨L3,hL3⟩:∃ L3:Str→Option PyData,L3 = fun y=>if y = Str.ofString "ahead" then some (Sx a) else if y = Str.ofString "later" then some (Sx l) else loc y:=⟨_,rfl⟩
  have hl3:L3 "text" = some (Sx t):=by rw [hL3];exact other (loc:=fun y=>if y = Str.ofString "later" then some (Sx l) else loc y) (other ht (by decide)) (by decide)
  have hla:L3 "ahead" = some (Sx a):=by rw [hL3];rfl
  have hll:L3 "later" = some (Sx l):=by rw [hL3];rfl
  rw [← hL3] at I1
  refine wpAny_execs_cons (wpAny_If ?_)
  refine isTrue_not ?_
  refine isTrue_plain ?_ rfl
  refine Ev.call (N:=N) (n:="_law_text_right") S T.room (T.ok t a l g0.1 ga gl.1 g0.2) f1 f2 f3 (by decide) (by decide)
    (Eas.cons (Ev.name (d:=Sx t) hl3 (by decide) (by decide)) (Eas.cons (Ev.name (d:=Sx a) hla (by decide) (by decide)) (Eas.cons (Ev.name (d:=Sx l) hll (by decide) (by decide)) Eas.nil))) rfl rfl _ _ _ I1 fun v h₂ t₂ x2 I2 r2=>?_
  rw [r2.bool_inv]
  refine wpAny_truthy_bool ?_
  exact wpAny_execs_nil (wpAny_execs_nil (post h₂ t₂ _ I2))
end
end Mine
end
section
set_option tactic.hygienic false
open PySem PySem.W PyProof.Rows PySem.Spec PySem.Calls PySem.Builtin PySem.Builtin.Str
namespace Mine
noncomputable def enO (it:Addr) (i:Int) (old:Value):Obj:={ cls:=.type "enumerate",dict:=none,data:=.fields #[.none,.bool false,.ref it,rawInt i,.none,old],slots:=#[] }
theorem enO_it (it:Addr) (i:Int) (old:Value):IsIt (enO it i old):=⟨.inr (.inr rfl),_,rfl⟩
section
variable {K:Lw} {loc:Str→Option PyData} {tx:List (List Nat)} {its:List (Addr × Obj)}
theorem loop3_ok {s:Shared} {N:Nat} {Q:Flow→Shared→Prop} {E:Value→Shared→Prop} (S:Ls K) (Z:Lp K) (T:Lt K N) (I:LI K loc tx its s.heap) (h9:tx.length = 9) (hF:Fine 81 tx) (hE:PassesOwn K.C.M K.A K.env E)
    (post:∀ h' tk loc',LI K loc' tx its h'→Q .next { s with heap:=h',toks:=tk }):wpAny K.C.M K.A (exec (lst 4) K.env) Q E s:=by
  refine wpAny_For (body:=forBody (lst 4)) (Call_ ?_ rfl) (fun _=>rfl)
  refine lw_blt S.G I.stays Z.enumerate (v:=.type "enumerate") rfl (by decide) (by decide) (by decide) ?_
  obtain ⟨m,F,e1,e2,_⟩:=id I.loc
  obtain ⟨vs0,hO0,hr0⟩:=id I.tl
  refine PyProof.Rows.callWith_type1 (args_cons (ldLoc F e2 ?_ rfl (show (scopeOf (stm 32)).names.lookup ("texts":Str) = some .local by decide) (by decide)) rfl) rfl rfl
  refine args_nil ?_
  refine call_enumerate_list hO0.isList fun h₁ hen hit hsz hk=>?_
  refine wpAny_pyIter_enum hen ?_
  have x1:Ext K.C.base s.heap h₁:=.of_keeps I.stays hk
  have I1:=I.ext x1
  obtain ⟨fb1,fi1⟩:=I.fresh (Nat.le_refl _)
  obtain ⟨fb2,fi2⟩:=I.fresh (Nat.le_succ _)
  have hne:s.heap.objs.size + 1 ≠ s.heap.objs.size:=Nat.succ_ne_self _
  clear hsz
  obtain ⟨o0,g0,c0,d0⟩:=hit
  have isit:∀ {o:Obj} {i:Nat},o.cls = .type "list_iterator"→o.data = .fields #[.ref K.T,.int i 0]→IsIt o:=fun h1 h2=>⟨.inl h1,_,h2⟩
  have I2:=(I1.keep (q:=(s.heap.objs.size,o0)) (isit (i:=0) c0 d0) g0).keep (q:=(s.heap.objs.size + 1,enO s.heap.objs.size 0 .none)) (enO_it ..) hen
  dsimp only [Nat.succ_eq_add_one] at *
  generalize s.heap.objs.size + 1 = EN at *
  generalize s.heap.objs.size = LT at *
  refine codeAny_forLoop_any (fun k s'=>∃ h tk i old o loc,s' = { s with heap:=h,toks:=tk }∧LI K loc tx ((EN,enO LT ((i:Nat):Int) old) :: (LT,o) :: its) h∧o.cls = .type "list_iterator"∧o.data = .fields #[.ref K.T,.int (i:Nat) 0]∧i ≤ 9∧k = 10 - i) ?_ 10
    ⟨h₁,s.toks,0,.none,o0,loc,rfl,I2,c0,d0,Nat.zero_le _,rfl⟩
  rintro k s' ⟨h,tk,i,old,o,loc,rfl,I',hc,hd,hi,rfl⟩
  have hen':IsEnum h EN LT ((i:Nat):Int) old:=I'.it
  have hit':h.IsListIter LT K.T i:=⟨o,I'.unkeep.it,hc,hd⟩
  obtain ⟨vs,hO,hr⟩:=id I'.tl
  have hvl:vs.length = 9:=by rw [hr.length,List.length_map,h9]
  cases hv:vs.toArray[i]? with
  | none =>
    refine wpAny_pyNext_enum_end S.hd hen' hit' hO.isList hv fun h' he'=>wpAny_execs_nil ?_
    exact post h' tk loc (I'.lose2 fb2 fb1 fi2 fi1 fun b o _ hb e=>he' b o hb e)
  | some v =>
    have hlt:i < 9:=by
      have:=(Array.getElem?_eq_some_iff.mp hv).1
      rwa [List.size_toArray,hvl] at this
    refine wpAny_pyNext_enum_item hen' hit' hO.isList hv hne fun h₁ heo hit₁ ht₁ hz₁ hk₁=>?_
    refine wpAny_letOwnedTupleGo_enum heo fun h₂ he₂ hs₂=>?_
    replace hs₂:Heap.SameBut EN h₁ h₂:=hs₂
    have ht₂:h₂.IsTuple h.objs.size #[.int i tk,v]:=⟨_,(hs₂.2 _ (Nat.ne_of_gt (Heap.lt_size hen'))).trans ht₁,rfl,_,rfl⟩
    refine wpAny_assign_Tuple S.hd ht₂ rfl rfl fun h₃ hx₃=>?_
    replace hx₃:Heap.ExtBut h₂.objs.size h₂ h₃:=hx₃
    have k3:∀ b o,h₂.get? b = some o→h₃.get? b = some o:=fun b o e=>hx₃ b o (Nat.ne_of_lt (Heap.lt_size e)) e
    obtain ⟨o₁,g₁,c₁,d₁⟩:=hit₁
    have I3:=((I'.lose2 (h':=h₃) fb2 fb1 fi2 fi1 fun b o h1 h2 e=>k3 b o ((hs₂.2 b h1).trans (hk₁ b o h1 h2 e))).keep (q:=(LT,o₁)) (isit c₁ d₁) (k3 _ _ ((hs₂.2 _ (Ne.symm hne)).trans g₁))).keep (q:=(EN,enO LT ((i:Int) + 1) v)) (enO_it ..) (k3 _ _ he₂)
    have hlt':i < tx.length:=by lia
    obtain ⟨v',e3,rv⟩:=hr.get (k:=i) (d:=Sx (tx.getD i [])) (by rw [List.getElem?_map,List.getD_eq_getElem?_getD,List.getElem?_eq_getElem hlt'];rfl)
    have hvv:v' = v:=by
      rw [List.getElem?_toArray] at hv
      rw [hv] at e3;cases e3;rfl
    subst hvv
    show wpAny _ _ (assignInOrder [assign (.Name "place" _) K.env,assign (.Name "text" _) K.env] [.int i tk,v']) _ _ _
    refine assignInOrder_cons (wpAny_assign_Name ?_)
    refine lw_store (K:=K) (s:={ s with heap:=h₃,toks:=tk + 1 }) I3 (by decide) (.int i tk) rfl (by decide) (by decide) fun h4 t4 I4=>?_
    refine assignInOrder_cons (wpAny_assign_Name ?_)
    refine lw_store (K:=K) (s:={ s with heap:=h4,toks:=t4 }) I4 (by decide) (flat_rd rfl rv) rfl (by decide) (by decide) fun h5 t5 I5=>?_
    refine assignInOrder_nil ?_
    refine wpAny_passesOwn hE ?_
    exact body3_ok (N:=N) (i:=i) (s:={ s with heap:=h5,toks:=t5 }) S Z T I5 (other (loc:=fun y=>if y = "place" then some (.int i) else _) rfl (by decide)) rfl (by lia) (by lia) hF fun h6 t6 loc' I6 =>
      ⟨10 - (i + 1),by lia,h6,t6,i + 1,_,o₁,loc',rfl,I6,c₁,d₁,hlt,rfl⟩
end
end Mine
end
section
set_option tactic.hygienic false
open PySem PySem.W PyProof.Rows PySem.Spec PySem.Calls PySem.Builtin PySem.Builtin.Str
namespace Mine
noncomputable def cOf:Expr→Str
  | .Constant (.str x) _ _=>x
  | _=>""
noncomputable def isC:Expr→Bool
  | .Constant (.str _) _ _=>true
  | _=>false
theorem isC_inv {e:Expr} (h:isC e = true):∃ x k p,e = .Constant (.str x) k p:=by
  cases e with
  | Constant c k p =>
    cases c with
    | str x=>exact ⟨x,k,p,rfl⟩
    | _=>exact Bool.noConfusion (show false = true from h)
  | _=>exact Bool.noConfusion (show false = true from h)
theorem strs_args {M:Model} {A:Around} {env:Env} {E:Value→Shared→Prop} {pos:Pos}:∀ (es:List Expr) (s:Shared) (Q:List Value→Shared→Prop),es.all isC = true→(∀ vs tk,RdL s.heap vs (es.map fun e=>.str (cOf e))→Q vs { s with toks:=tk })→wpAny M A (spliced (backTo pos (starEach es env))) Q E s
  | [],s,Q,_,post=>args_nil (post [] s.toks .nil)
  | e :: es,s,Q,h,post=>by
    rw [List.all_cons,Bool.and_eq_true] at h
    obtain ⟨x,k,p,rfl⟩:=isC_inv h.1
    refine args_cons (Calls.Constant_str ?_) rfl
    exact strs_args es _ _ h.2 fun vs tk r=>post _ tk (.cons (.str x _) r)
noncomputable def esOf:Stmt→List Expr
  | .FunctionDef _ _ [.Return (some (.List es _)) _] _ _ _ _ _ _ _=>es
  | _=>[]
noncomputable def strsOf (i:Nat):List (List Nat):=(esOf (stm i)).map fun e=>(cOf e).cps.toList
theorem strs_eq (i:Nat):((esOf (stm i)).map fun e=>PyData.str (cOf e)) = (strsOf i).map Sx:=by
  unfold strsOf
  rw [List.map_map]
  refine List.map_congr_left fun e _=>?_
  simp [Sx,mk]
noncomputable def finB (B:Nat) (ts:List (List Nat)):Bool:=ts.all fun t=>decide (t.length ≤ B) && t.all fun c=>decide (c < 1114112)
theorem fine_of {B:Nat} {ts:List (List Nat)} (h:finB B ts = true):Fine B ts:=fun t ht=>by
  have:=List.all_eq_true.mp h t ht
  rw [Bool.and_eq_true] at this
  exact ⟨of_decide_eq_true this.1,fun c hc=>of_decide_eq_true (List.all_eq_true.mp this.2 c hc)⟩
theorem pieces_fine:Fine 4 (strsOf 23):=fine_of (by decide +kernel)
theorem told_fine:Fine 49 (strsOf 24):=fine_of (by decide +kernel)
theorem pieces_len:(strsOf 23).length = 48:=by decide +kernel
theorem told_len:(strsOf 24).length = 4:=by decide +kernel
theorem told_call {C:Cx} {A:Around} {s:Shared} {n:Str} {i:Nat} {f:Addr} {cdv:Value} {p p':Pos} {Q E:Value→Shared→Prop} (G:Glb C) (hf:FnAt C n f (paramsOf (stm i)) (bodyOf (stm i)) (scopeOf (stm i)) .none cdv)
    (hbody:bodyOf (stm i) = [.Return (some (.List (esOf (stm i)) p)) p']) (hC:(esOf (stm i)).all isC = true) (hl:(esOf (stm i)).length ≤ 1000)
    (hbind:∀ (s:Shared) kV doc pm an ct,BindsTo s (fnOf n n (paramsOf (stm i)) (bodyOf (stm i)) (scopeOf (stm i)) .none kV doc pm an cdv ct) ⟨[],[]⟩ [])
    (hcell:∀ x ∈ (scopeOf (stm i)).names,x.2 ≠ .cell) (hco:(scopeOf (stm i)).isCoroutine = false) (hgen:(scopeOf (stm i)).isGenerator = false) (hk:(scopeOf (stm i)).kind = .function)
    (hst:C.base.StaysIn s.heap) (hroom:A.depth < recursionLimit)
    (post:∀ a h' tk vs,(∀ b o,s.heap.get? b = some o→h'.get? b = some o)→s.heap.objs.size < a→OwnL h' a vs.toArray→RdL h' vs ((strsOf i).map Sx)→Q (.ref a) { s with heap:=h',toks:=tk }) :
    wpAny C.M A (call (.ref f) []) Q E s:=by
  obtain ⟨hn,⟨fo,kV,doc,pm,an,ct,hfo,hfd⟩,hcd⟩:=hf
  refine wpAny_call (codeAny_call_def (fd:=fnOf n n (paramsOf (stm i)) (bodyOf (stm i)) (scopeOf (stm i)) .none kV doc pm an cdv ct) (body:=bodyOf (stm i))
    (binds:=[]) hroom (hst _ _ hfo) hfd (G.nolimit.keeps hst) (hcd.keeps hst) rfl (hbind s kV doc pm an ct) hcell (fun x hx=>by cases hx) (fun h₀ hns₀ hk₀=>?_) hco hgen hk)
  rw [hbody]
  refine wpAny_execs_cons (wpAny_Return_some (List_ ?_))
  refine strs_args _ _ _ hC fun vs tk r=>?_
  have hvl:vs.length ≤ 1000:=by rw [r.length,List.length_map];exact hl
  refine wpAny_newObj_type ?_ (by show vs.toArray.size ≤ sizeLine;rw [List.size_toArray,sizeLine_eq];lia)
  rw [strs_eq] at r
  exact post h₀.objs.size (h₀.push { cls:=.type "list",data:=.seq vs.toArray }) tk vs (fun b o e=>Heap.get?_push_of_some _ (hk₀ b o e)) hns₀.lt ⟨_,Heap.get?_push_size _ rfl,rfl,rfl,_,rfl⟩ (strs_rd r)
theorem told_ev {C:Cx} {A:Around} {s:Shared} {L a:Addr} {cd:Value} {n:Str} {i:Nat} {f:Addr} {cdv:Value} {p p' p1 p2:Pos} {Q E:Value→Shared→Prop} (G:Glb C) (hf:FnAt C n f (paramsOf (stm i)) (bodyOf (stm i)) (scopeOf (stm i)) .none cdv)
    (hbody:bodyOf (stm i) = [.Return (some (.List (esOf (stm i)) p)) p']) (hC:(esOf (stm i)).all isC = true) (hl:(esOf (stm i)).length ≤ 1000)
    (hbind:∀ (s:Shared) kV doc pm an ct,BindsTo s (fnOf n n (paramsOf (stm i)) (bodyOf (stm i)) (scopeOf (stm i)) .none kV doc pm an cdv ct) ⟨[],[]⟩ [])
    (hcell:∀ x ∈ (scopeOf (stm i)).names,x.2 ≠ .cell) (hco:(scopeOf (stm i)).isCoroutine = false) (hgen:(scopeOf (stm i)).isGenerator = false) (hk:(scopeOf (stm i)).kind = .function)
    (hlk:(scopeOf (stm 32)).names.lookup n = some .globalImplicit) (hdb:(n == ("__debug__":Str)) = false)
    (hst:C.base.StaysIn s.heap) (hroom:A.depth < recursionLimit)
    (post:∀ a h' tk vs,(∀ b o,s.heap.get? b = some o→h'.get? b = some o)→s.heap.objs.size < a→OwnL h' a vs.toArray→RdL h' vs ((strsOf i).map Sx)→Q (.ref a) { s with heap:=h',toks:=tk }) :
    wpAny C.M A (eval (.Call (.Name n p1) [] [] p2) (envOfC "law" (scopeOf (stm 32)) L a cd)) Q E s:=by
  obtain ⟨fo,kV,doc,pm,an,ct,hfo,hfd⟩:=id hf.at_
  refine Call_ ?_ rfl
  refine Name_function_global rfl hlk (loadGlobal_global (env:=envOfC "law" (scopeOf (stm 32)) L a cd) (G.g.keeps hst) hf.name ?_) hdb
  refine Calls.callWith_function (o:=fo) (fd:=fnOf n n (paramsOf (stm i)) (bodyOf (stm i)) (scopeOf (stm i)) .none kV doc pm an cdv ct) (evalArgs_nil3 ⟨⟨hst _ _ hfo,hfd⟩,?_⟩)
  exact told_call G hf hbody hC hl hbind hcell hco hgen hk hst hroom post
end Mine
end
section
set_option tactic.hygienic false
open PySem PySem.W PyProof.Rows PySem.Spec PySem.Calls PySem.Builtin PySem.Builtin.Str
namespace Mine
noncomputable abbrev lenv (L a:Addr) (cd:Value):Env:=envOfC "law" (scopeOf (stm 32)) L a cd
section
variable {C:Cx} {L a:Addr} {cd:Value} {A:Around}
theorem st0_ok {s:Shared} {m:Str→Option Value} {S0:Addr} {ws:List Value} {script:List Int} {Q:Flow→Shared→Prop} {E:Value→Shared→Prop}
    (F:Fr C.base L s.heap m) (hm:m "script" = some (.ref S0)) (hL:s.heap.IsList S0 ws.toArray) (hI:IntsAre ws script) (hlen:script.length ≤ 63)
    (hc:∃ v,s.heap.IsCell (L + 1) v)
    (post:∀ S1 m' h' tk (vs:List Value),Fr C.base L h' m'→m' "script" = some (.ref S1)→h'.IsList S1 vs.toArray→IntsAre vs (script.take 63)→(∃ v,h'.IsCell (L + 1) v)→Q .next { s with heap:=h',toks:=tk }) :
    wpAny C.M A (exec (lst 0) (lenv L a cd)) Q E s:=by
  have hlk:(scopeOf (stm 32)).names.lookup ("script":Str) = some .local:=by decide
  refine wpAny_Assign_Name (wpAny_Subscript_list_slice (ldLoc F hm ?_ rfl hlk (by decide)) (fun _ _=>rfl)) rfl
  refine wpAny_pure ?_
  show wpAny _ _ (eval _ (lenv L a cd)) _ _ _
  refine wpAny_Constant_int ?_
  refine ⟨S0,ws.toArray,none,some 63,rfl,hL,?_,.none,.int _ _,?_⟩
  · rw [List.size_toArray,hI.length];exact small_fits (by lia)
  have hv:=slice_ints_uptoW hI (y:=63) (by decide)
  generalize slicePick ws.toArray none (some 63) none = arr at hv
  have hsz:(s.heap.push { cls:=.type "slice",data:=.fields #[partValue none,.int 63 s.toks,.none] }).objs.size = s.heap.objs.size + 1:=Heap.size_push ..
  have g:=Heap.get?_push_size (s.heap.push { cls:=.type "slice",data:=.fields #[partValue none,.int 63 s.toks,.none] }) (o:={ cls:=.type "list",data:=.seq arr }) rfl
  rw [hsz] at g
  have k:∀ b o,s.heap.get? b = some o→((s.heap.push { cls:=.type "slice",data:=.fields #[partValue none,.int 63 s.toks,.none] }).push { cls:=.type "list",data:=.seq arr }).get? b = some o:=fun b o e=>Heap.get?_push_of_some _ (Heap.get?_push_of_some _ e)
  have F1:=F.keeps k
  have hc1:∃ v,((s.heap.push { cls:=.type "slice",data:=.fields #[partValue none,.int 63 s.toks,.none] }).push { cls:=.type "list",data:=.seq arr }).IsCell (L + 1) v:=let ⟨v,q⟩:=hc;⟨v,q.keeps k⟩
  have hLS:s.heap.objs.size + 1 ≠ L:=Nat.ne_of_gt (Nat.lt_succ_of_lt F.ns.lt)
  refine wpAny_storeName_local hlk F1.ns (fun h' hn hs=>?_) rfl
  obtain ⟨v,hcell⟩:=hc1
  refine post (s.heap.objs.size + 1) _ h' _ arr.toList (F1.set hn hs) (if_pos rfl) ⟨_,(hs.2 _ hLS).trans g,rfl,_,by rw [Array.toArray_toList]⟩ hv ⟨v,hcell.sameBut hs (Nat.succ_ne_self _)⟩
theorem st1_ok {s:Shared} {m:Str→Option Value} {S1:Addr} {vs:List Value} {sc:List Int} {f1 f2:Addr} {cd1 cd2:Value} {Q:Flow→Shared→Prop} {E:Value→Shared→Prop} (G:Glb C)
    (hf1:FnAt C "_law_pieces" f1 (paramsOf (stm 23)) (bodyOf (stm 23)) (scopeOf (stm 23)) .none cd1) (hf2:FnAt C "_law_told_texts" f2 (paramsOf (stm 24)) (bodyOf (stm 24)) (scopeOf (stm 24)) .none cd2)
    (hroom:A.depth < recursionLimit) (hh:A.handled = none)
    (F:Fr C.base L s.heap m) (hm:m "script" = some (.ref S1)) (hL:s.heap.IsList S1 vs.toArray) (hI:IntsAre vs sc) (hc:∃ v,s.heap.IsCell (L + 1) v)
    (post:∀ P T h' tk,Ls { C:=C,L:=L,a:=a,cd:=cd,P:=P,S:=S1,T:=T,pc:=strsOf 23,sc:=sc,A:=A,X:=S1,xs:=vs } →
      LI { C:=C,L:=L,a:=a,cd:=cd,P:=P,S:=S1,T:=T,pc:=strsOf 23,sc:=sc,A:=A,X:=S1,xs:=vs } (fun _=>none) (strsOf 24) [] h'→Q .next { s with heap:=h',toks:=tk }) :
    wpAny C.M A (exec (lst 1) (lenv L a cd)) Q E s:=by
  refine Assign_Tuple (Tuple_ ?_) rfl rfl
  refine args_cons ?_ rfl
  refine told_ev (i:=23) G hf1 rfl (by decide +kernel) (by decide +kernel) (fun s kV doc pm an ct=>BindsTo.of_eq rfl) (by decide) rfl rfl rfl (by decide) (by decide) F.keep hroom fun P h₁ t₁ vp k1 hP hO hr=>?_
  refine args_cons ?_ rfl
  have F1:=F.keeps k1
  refine told_ev (i:=24) (s:={ s with heap:=h₁,toks:=t₁ }) G hf2 rfl (by decide +kernel) (by decide +kernel) (fun s kV doc pm an ct=>BindsTo.of_eq rfl) (by decide) rfl rfl rfl (by decide) (by decide) F1.keep hroom fun T h₂ t₂ vt k2 hT hO2 hr2=>?_
  have F2:=F1.keeps k2
  refine args_nil ?_
  refine wpAny_newTuple ?_
  have k3:∀ b o,h₂.get? b = some o→(h₂.push { cls:=.type "tuple",data:=.seq #[.ref P,.ref T] }).get? b = some o:=fun b o e=>Heap.get?_push_of_some _ e
  have ht:(h₂.push { cls:=.type "tuple",data:=.seq #[.ref P,.ref T] }).IsTuple h₂.objs.size #[.ref P,.ref T]:=⟨_,Heap.get?_push_size _ rfl,rfl,_,rfl⟩
  refine wpAny_assign_Tuple (s:={ s with heap:=h₂.push { cls:=.type "tuple",data:=.seq #[.ref P,.ref T] },toks:=t₂ }) hh ht rfl rfl fun h₃ hx₃=>?_
  have k4:∀ b o,(h₂.push { cls:=.type "tuple",data:=.seq #[.ref P,.ref T] }).get? b = some o→h₃.get? b = some o:=fun b o e=>hx₃ b o (Nat.ne_of_lt (Heap.lt_size e)) e
  have kk:∀ b o,h₂.get? b = some o→h₃.get? b = some o:=fun b o e=>k4 b o (k3 b o e)
  have F3:=F2.keeps kk
  obtain ⟨oP,gP,cP,dP,nP,eP⟩:=hO
  obtain ⟨oT,gT,cT,dT,nT,eT⟩:=hO2
  obtain ⟨oS,gS,cS,nS,eS⟩:=hL
  obtain ⟨v,hcell⟩:=hc
  have hLlt:L < s.heap.objs.size:=F.ns.lt
  have hSlt:S1 < s.heap.objs.size:=Heap.lt_size gS
  have hClt:L + 1 < s.heap.objs.size:=hcell.lt
  have hPlt:P < h₁.objs.size:=Heap.lt_size gP
  replace hT:h₁.objs.size < T:=hT
  have h01:s.heap.objs.size < h₁.objs.size:=Nat.lt_trans hP hPlt
  have gP3:h₃.get? P = some oP:=kk _ _ (k2 _ _ gP)
  have gT3:h₃.get? T = some oT:=kk _ _ gT
  have gS3:h₃.get? S1 = some oS:=kk _ _ (k2 _ _ (k1 _ _ gS))
  have hcell3:h₃.IsCell (L + 1) v:=((hcell.keeps k1).keeps k2).keeps kk
  show wpAny _ _ (assignInOrder [assign (.Name "pieces" _) (lenv L a cd),assign (.Name "texts" _) (lenv L a cd)] [.ref P,.ref T]) _ _ _
  refine assignInOrder_cons (wpAny_assign_Name ?_)
  refine wpAny_storeName_cell (c:=L + 1) rfl (show (scopeOf (stm 32)).names.lookup ("pieces":Str) = some .cell by decide) rfl hcell3 fun h₄ hc4 hs4=>?_
  replace hs4:Heap.SameBut (L + 1) h₃ h₄:=hs4
  have ns4:h₄.Ns L m:=F3.ns.sameBut hs4 (Nat.ne_of_lt (Nat.lt_succ_self _))
  have F4:Fr C.base L h₄ m:=⟨ns4,fun b o e=>(hs4.2 b (Nat.ne_of_lt (Nat.lt_succ_of_lt (Nat.lt_of_lt_of_le (Heap.lt_size e) F.above)))).trans (F3.keep b o e),F.above⟩
  refine assignInOrder_cons (wpAny_assign_Name ?_)
  refine wpAny_storeName_local (s:={ s with heap:=h₄,toks:=t₂ }) (show (scopeOf (stm 32)).names.lookup ("texts":Str) = some .local by decide) F4.ns (fun h₅ hn5 hs5=>?_) rfl
  replace hs5:Heap.SameBut L h₄ h₅:=hs5
  refine assignInOrder_nil ?_
  have up:∀ b o,b ≠ L→b ≠ L + 1→h₃.get? b = some o→h₅.get? b = some o:=fun b o h1 h2 e=>(hs5.2 b h1).trans ((hs4.2 b h2).trans e)
  have hTs:s.heap.objs.size < T:=Nat.lt_trans h01 hT
  have neP:P ≠ L∧P ≠ L + 1:=⟨Nat.ne_of_gt (Nat.lt_trans hLlt hP),Nat.ne_of_gt (Nat.lt_trans hClt hP)⟩
  have neT:T ≠ L∧T ≠ L + 1:=⟨Nat.ne_of_gt (Nat.lt_trans hLlt hTs),Nat.ne_of_gt (Nat.lt_trans hClt hTs)⟩
  have neS:S1 ≠ L∧S1 ≠ L + 1:=by
    refine ⟨fun q=>?_,fun q=>?_⟩
    · subst q
      obtain ⟨oL,es,ep,hL,hLd,_⟩:=F.ns
      rw [hL] at gS;cases gS;rw [hLd] at eS;cases eS
    · subst q
      obtain ⟨oc,go,co⟩:=hcell
      rw [go] at gS;cases gS;rw [co] at eS;cases eS
  have hbT:C.base.get? T = none:=by
    cases hq:C.base.get? T with
    | none=>rfl
    | some o=>exact absurd (Nat.lt_trans (Nat.lt_of_lt_of_le (Heap.lt_size hq) F.above) (Nat.lt_trans hLlt hTs)) (Nat.lt_irrefl _)
  have F5:=F4.set hn5 hs5
  exact post P T h₅ _ ⟨G,hh,hbT,Nat.ne_of_gt (Nat.lt_trans hPlt hT),Nat.ne_of_gt (Nat.lt_trans hSlt hTs),Nat.ne_of_gt (Nat.lt_trans hSlt hTs)⟩
    ⟨F5.keep,⟨_,F5,by rw [if_neg (by decide)];exact hm,if_pos rfl,fun x d e=>by cases e⟩,hc4.sameBut hs5 (Nat.succ_ne_self _),
      ⟨vp,⟨oP,up _ _ neP.1 neP.2 gP3,cP,nP,eP⟩,strs_rd hr⟩,⟨vs,⟨oS,up _ _ neS.1 neS.2 gS3,cS,nS,eS⟩,hI⟩,⟨vt,⟨oT,up _ _ neT.1 neT.2 gT3,cT,dT,nT,eT⟩,strs_rd hr2⟩,⟨oS,up _ _ neS.1 neS.2 gS3,cS,nS,eS⟩,fun p hp=>by cases hp⟩
theorem law_walk {s:Shared} {m:Str→Option Value} {S0:Addr} {ws:List Value} {script:List Int} {f1 f2:Addr} {cd1 cd2:Value} {Q:Flow→Shared→Prop} {E:Value→Shared→Prop} (w:W C)
    (hmax:C.mg "max" = none) (hen:C.mg "enumerate" = none)
    (hf1:FnAt C "_law_pieces" f1 (paramsOf (stm 23)) (bodyOf (stm 23)) (scopeOf (stm 23)) .none cd1) (hf2:FnAt C "_law_told_texts" f2 (paramsOf (stm 24)) (bodyOf (stm 24)) (scopeOf (stm 24)) .none cd2)
    (hR:Room A [lenv L a cd] 344) (hE:PassesOwn C.M A (lenv L a cd) E)
    (F:Fr C.base L s.heap m) (hm:m "script" = some (.ref S0)) (hL:s.heap.IsList S0 ws.toArray) (hI:IntsAre ws script) (hlen:script.length ≤ 63)
    (hc:∃ v,s.heap.IsCell (L + 1) v)
    (post:∀ h' tk,C.base.StaysIn h'→(∃ m,Fr C.base L h' m)→Q (.ret (.bool true)) { s with heap:=h',toks:=tk }) :
    wpAny C.M A (execs (bodyOf (stm 32)) (lenv L a cd)) Q E s:=by
  rw [body_lst]
  refine wpAny_execs_cons (st0_ok F hm hL hI hlen hc fun S1 m' h₁ t₁ vs F1 hm1 hL1 hI1 hc1=>?_)
  dsimp only
  refine wpAny_execs_cons (st1_ok (s:={ s with heap:=h₁,toks:=t₁ }) w.G hf1 hf2 (by have:=hR.dep;lia) hR.hd F1 hm1 hL1 hI1 hc1 fun P T h₂ t₂ S I=>?_)
  dsimp only
  generalize hK:({ C:=C,L:=L,a:=a,cd:=cd,P:=P,S:=S1,T:=T,pc:=strsOf 23,sc:=script.take 63,A:=A,X:=S1,xs:=vs }:Lw) = K at S I
  have hsc:K.sc.length ≤ 63:=by rw [← hK];simp;lia
  have Z:Lp K:=by
    rw [← hK]
    exact ⟨pieces_len,pieces_fine,w.no _ (by decide),hmax,w.no _ (by decide),hen⟩
  have TT:Lt K 344:=by
    rw [← hK]
    obtain ⟨f,dV,cdv,hf,_⟩:=w.fns ("_law_text_right",31) (by decide)
    obtain ⟨fo,kV,doc,pm,an,ct,hfo,hfd⟩:=hf.at_
    refine ⟨hR,⟨f,fo,_,hf.name,hfo,hfd⟩,fun t a l ht ha hl ok=>?_⟩
    exact good w 344 _ _ _ (text_ok (n:=327) ok (by lia) (by lia) (by lia) (by have:t.countP isO ≤ t.length:=List.countP_le_length;unfold ms;lia) (by lia))
  have e1:C.M = K.C.M:=by rw [← hK]
  have e2:A = K.A:=by rw [← hK]
  have e3:lenv L a cd = K.env:=by rw [← hK]
  have e4:C.base = K.C.base:=by rw [← hK]
  have e5:L = K.L:=by rw [← hK]
  rw [e1,e2,e3] at hE ⊢
  rw [e4,e5] at post
  clear hK e1 e2 e3 e4 e5 F F1
  refine wpAny_execs_cons (loop1_ok (s:={ s with heap:=h₂,toks:=t₂ }) S Z I told_len told_fine (by lia) hsc hE fun h₃ t₃ loc₃ tx₃ xs₃ I3 h4 hF3=>?_)
  dsimp only
  have S3:Ls { K with X:=K.S,xs:=xs₃ }:=⟨S.G,S.hd,S.nT,S.TP,S.TS,S.TS⟩
  have Z3:Lp { K with X:=K.S,xs:=xs₃ }:=⟨Z.n48,Z.fine,Z.len,Z.max,Z.range,Z.enumerate⟩
  have T3:Lt { K with X:=K.S,xs:=xs₃ } 344:=⟨TT.room,TT.fn,TT.ok⟩
  refine wpAny_execs_cons (loop2_ok (K:={ K with X:=K.S,xs:=xs₃ }) (s:={ s with heap:=h₃,toks:=t₃ }) S3 Z3 I3 h4 hF3 (by lia) hsc hE fun h₅ t₅ loc₅ tx₅ I5 h9 hF5=>?_)
  dsimp only
  refine wpAny_execs_cons (loop3_ok (K:={ K with X:=K.S,xs:=xs₃ }) (s:={ s with heap:=h₅,toks:=t₅ }) S3 Z3 T3 I5 h9 hF5 hE fun h₆ t₆ loc₆ I6=>?_)
  dsimp only
  refine wpAny_execs_cons (wpAny_Return_some (wpAny_Constant_bool ?_))
  obtain ⟨m6,F6,_⟩:=I6.loc
  exact post h₆ t₆ I6.stays ⟨m6,F6⟩
end
end Mine
end
section
set_option tactic.hygienic false
open PySem PySem.W PyProof.Rows PySem.Spec PySem.Calls PySem.Builtin PySem.Builtin.Str
namespace Mine
theorem law_end {C:Cx} {A:Around} {s₁:Shared} {h₁:Heap} {tk₁:Tok} {L fa:Addr} {cd:Value} {m:Str→Option Value} {S0:Addr} {ws:List Value} {script:List Int} {f1 f2:Addr} {cd1 cd2:Value} {co:Obj} {cv:Option Value} {Q:Flow→Shared→Prop} {E:Value→Shared→Prop}
    (hb:C.base = s₁.heap) (w:W C) (hmax:C.mg "max" = none) (hen:C.mg "enumerate" = none)
    (hf1:FnAt C "_law_pieces" f1 (paramsOf (stm 23)) (bodyOf (stm 23)) (scopeOf (stm 23)) .none cd1) (hf2:FnAt C "_law_told_texts" f2 (paramsOf (stm 24)) (bodyOf (stm 24)) (scopeOf (stm 24)) .none cd2)
    (hR:Room A [lenv L fa cd] 344) (hE:PassesOwn C.M A (lenv L fa cd) E)
    (F:Fr s₁.heap L h₁ m) (hm:m "script" = some (.ref S0)) (hL:s₁.heap.IsList S0 ws.toArray) (hI:IntsAre ws script) (hcond:¬ (63:Int) < (script.length:Int))
    (hn:h₁.get? (L + 1) = some co) (hco:co.data = .cell cv)
    (post:∀ h' tk,(∃ m,Fr s₁.heap L h' m)→Q (.ret (.bool true)) { s₁ with heap:=h',toks:=tk }) :
    wpAny C.M A (execs (bodyOf (stm 32)) (lenv L fa cd)) Q E { s₁ with heap:=h₁,toks:=tk₁ }:=by
  obtain ⟨o,ho,r⟩:=hL
  rw [← hb] at F ho post
  exact law_walk (s:={ s₁ with heap:=h₁,toks:=tk₁ }) w hmax hen hf1 hf2 hR hE F hm ⟨o,F.keep _ _ ho,r⟩ hI (by lia) ⟨cv,co,hn,hco⟩ fun h' tk _ hF=>post h' tk hF
end Mine
end
section
open PySem PySem.W PyProof.Rows PySem.Spec PySem.Calls
namespace Mine
noncomputable def refIn (K:Frag) (n:Str):Addr:=match nsIn K mainGlobals n with
  | some (some (.ref f))=>f
  | _=>0
noncomputable def funIn (K:Frag) (f:Addr):FuncData:=match K.lookup f with
  | some ⟨_,_,.func fd,_⟩=>fd
  | _=>default
noncomputable def clsIn (K:Frag) (f:Addr):Value:=match K.lookup f with
  | some o=>o.cls
  | none=>.none
noncomputable def dicIn (K:Frag) (f:Addr):Option Addr:=match K.lookup f with
  | some o=>o.dict
  | none=>none
noncomputable def sltIn (K:Frag) (f:Addr):Array (Option Value):=match K.lookup f with
  | some o=>o.slots
  | none=>#[]
noncomputable def seqIn (K:Frag) (f:Addr):Array Value:=match K.lookup f with
  | some ⟨_,_,.seq xs _,_⟩=>xs
  | _=>#[]
noncomputable def capIn (K:Frag) (f:Addr):Nat:=match K.lookup f with
  | some ⟨_,_,.seq _ n,_⟩=>n
  | _=>0
noncomputable def entIn (K:Frag) (f:Addr):Array DictEntry:=match K.lookup f with
  | some ⟨_,_,.dict es _,_⟩=>es
  | _=>#[]
noncomputable def epIn (K:Frag) (f:Addr):Nat:=match K.lookup f with
  | some ⟨_,_,.dict _ n,_⟩=>n
  | _=>0
theorem fnAt_of {K:Frag} {C:Cx} (X:K.In C.base) (G:C.base.Ns mainGlobals C.mg) {n:Str} {i:Nat} (f:Addr)
    (e1:nsIn K mainGlobals n = some (some (.ref f)))
    (e2:K.lookup f = some ⟨clsIn K f,dicIn K f,.func (fnOf n n (paramsOf (stm i)) (bodyOf (stm i)) (scopeOf (stm i)) (funIn K f).defaults (funIn K f).kwdefaults (funIn K f).doc (funIn K f).pyModule (funIn K f).annotations (funIn K f).code (funIn K f).closureTuple),sltIn K f⟩)
    (e3:codeIn K (funIn K f).code n = true):FnAt C n f (paramsOf (stm i)) (bodyOf (stm i)) (scopeOf (stm i)) (funIn K f).defaults (funIn K f).code :=
  ⟨mg_of X G e1,⟨_,_,_,_,_,_,X _ _ e2,rfl⟩,codeRec_of X e3⟩
theorem seqIn_get {K:Frag} {h:Heap} (X:K.In h) {f:Addr} (e:K.lookup f = some ⟨clsIn K f,dicIn K f,.seq (seqIn K f) (capIn K f),sltIn K f⟩):∃ o,h.get? f = some o∧o.cls = clsIn K f∧o.data = .seq (seqIn K f) (capIn K f):=⟨_,X _ _ e,rfl,rfl⟩
noncomputable def strKeyed (es:Array DictEntry):Bool:=es.toList.all fun e=>match e.key with
  | .str _ _=>true
  | _=>false
theorem ns_of {K:Frag} {h:Heap} (X:K.In h) {f:Addr} (e:K.lookup f = some ⟨clsIn K f,dicIn K f,.dict (entIn K f) (epIn K f),sltIn K f⟩) (hs:strKeyed (entIn K f) = true):h.Ns f (nsFind (entIn K f)):=by
  refine ⟨_,_,_,X _ _ e,rfl,fun q hq=>?_,fun _=>rfl⟩
  have:=List.all_eq_true.mp hs q (Array.mem_toList_iff.mpr hq)
  split at this
  · rename_i n t e;exact ⟨n,t,e⟩
  · cases this
end Mine
end
section
open PySem PySem.W PyProof.Rows PySem.Spec PySem.Calls
namespace Mine
noncomputable def FnOk (K:Frag) (n:Str) (i:Nat) (f:Addr):Prop :=
  nsIn K mainGlobals n = some (some (.ref f)) ∧
  K.lookup f = some ⟨clsIn K f,dicIn K f,.func (fnOf n n (paramsOf (stm i)) (bodyOf (stm i)) (scopeOf (stm i)) (funIn K f).defaults (funIn K f).kwdefaults (funIn K f).doc (funIn K f).pyModule (funIn K f).annotations (funIn K f).code (funIn K f).closureTuple),sltIn K f⟩ ∧
  codeIn K (funIn K f).code n = true
theorem FnOk.at_ {K:Frag} {C:Cx} {n:Str} {i:Nat} {f:Addr} (h:FnOk K n i f) (X:K.In C.base) (G:C.base.Ns mainGlobals C.mg):FnAt C n f (paramsOf (stm i)) (bodyOf (stm i)) (scopeOf (stm i)) (funIn K f).defaults (funIn K f).code:=fnAt_of X G f h.1 h.2.1 h.2.2
section
variable {P:Params}
theorem w_error:FnOk (kH P) "error" 2 45:=⟨by kernel_rfl,by kernel_rfl,by kernel_rfl⟩
theorem w_cmd:FnOk (kH P) "command_at" 21 165:=⟨by kernel_rfl,by kernel_rfl,by kernel_rfl⟩
theorem w_edfl:(funIn (kH P) 45).defaults = .ref 38:=by kernel_rfl
theorem w_cdfl:(funIn (kH P) 165).defaults = .ref 158:=by kernel_rfl
noncomputable def slN (K:Frag) (i:Nat):Option Value:=((sltIn K 33)[i]?).getD none
theorem w_cls:(kH P).lookup 33 = some (excClassObj "Raised" "Raised" 33 32 [.type "Exception"] EB true [] [] false none none (slN (kH P) 0) (slN (kH P) 1) (slN (kH P) 2) (slN (kH P) 3) (slN (kH P) 5) "Exception.__new__"):=by kernel_rfl
theorem w_ns:(kH P).lookup 32 = some ⟨clsIn (kH P) 32,dicIn (kH P) 32,.dict (entIn (kH P) 32) (epIn (kH P) 32),sltIn (kH P) 32⟩:=by kernel_rfl
theorem w_key:strKeyed (entIn (kH P) 32) = true:=by kernel_rfl
theorem w_at:(attrs.all fun n=>(nsFind (entIn (kH P) 32) n).isNone) = true:=by kernel_rfl
theorem w_a1:nsFind (entIn (kH P) 32) "__setattr__" = none:=by kernel_rfl
theorem w_a2:nsFind (entIn (kH P) 32) "__init__" = some (.ref 30):=by kernel_rfl
theorem w_a3:nsFind (entIn (kH P) 32) "__getattribute__" = none:=by kernel_rfl
theorem w_a4:nsFind (entIn (kH P) 32) "__getattr__" = none:=by kernel_rfl
theorem w_init:(kH P).lookup 30 = some ⟨.type "function",dicIn (kH P) 30,.func (fnOf "__init__" "Raised.__init__" (paramsOf initStm) (bodyOf initStm) (scopeOf initStm) (.ref 23) (funIn (kH P) 30).kwdefaults (funIn (kH P) 30).doc (funIn (kH P) 30).pyModule (funIn (kH P) 30).annotations (funIn (kH P) 30).code (funIn (kH P) 30).closureTuple),sltIn (kH P) 30⟩:=by kernel_rfl
theorem w_icode:codeIn (kH P) (funIn (kH P) 30).code "Raised.__init__" = true:=by kernel_rfl
noncomputable def iOf (K:Frag) (a i:Nat):Int:=match (seqIn K a)[i]? with
  | some (.int n _)=>n
  | _=>0
noncomputable def tOf (K:Frag) (a i:Nat):Tok:=match (seqIn K a)[i]? with
  | some (.int _ t)=>t
  | some (.str _ t)=>t
  | _=>0
theorem w_23:(kH P).lookup 23 = some ⟨clsIn (kH P) 23,dicIn (kH P) 23,.seq #[.ref 22,.int (iOf (kH P) 23 1) (tOf (kH P) 23 1),.int (iOf (kH P) 23 2) (tOf (kH P) 23 2)] (capIn (kH P) 23),sltIn (kH P) 23⟩:=by kernel_rfl
theorem w_37:(kH P).lookup 37 = some ⟨.type "tuple",dicIn (kH P) 37,.seq #[.str "NONE" (tOf (kH P) 37 0)] (capIn (kH P) 37),sltIn (kH P) 37⟩:=by kernel_rfl
theorem w_38:(kH P).lookup 38 = some ⟨clsIn (kH P) 38,dicIn (kH P) 38,.seq #[.ref 37] (capIn (kH P) 38),sltIn (kH P) 38⟩:=by kernel_rfl
theorem w_158:(kH P).lookup 158 = some ⟨clsIn (kH P) 158,dicIn (kH P) 158,.seq #[.bool false] (capIn (kH P) 158),sltIn (kH P) 158⟩:=by kernel_rfl
theorem w_raised:nsIn (kH P) mainGlobals "Raised" = some (some (.ref 33)):=by kernel_rfl
theorem w_none:(["Exception","len","ord","chr","tuple","range","max","enumerate"]:List Str).all (fun n=>match nsIn (kH P) mainGlobals n with
    | some none=>true
    | _=>false) = true:=by kernel_rfl
theorem w_no {C:Cx} (X:(kH P).In C.base) (G:C.base.Ns mainGlobals C.mg) {n:Str} (hn:n ∈ (["Exception","len","ord","chr","tuple","range","max","enumerate"]:List Str)):C.mg n = none:=by
  have:=List.all_eq_true.mp (w_none (P:=P)) n hn
  split at this
  · rename_i e;exact mg_none_of X G e
  · cases this
theorem w_exf {C:Cx} (X:(kH P).In C.base) (G:C.base.Ns mainGlobals C.mg) (he:C.exc = 33):Exf C where
  cls:=by
    refine ⟨32,nsFind (entIn (kH P) 32),slN (kH P) 0,slN (kH P) 1,slN (kH P) 2,slN (kH P) 3,slN (kH P) 5,30,.ref 23,(funIn (kH P) 30).code,⟨?_,ns_of X w_ns w_key⟩,w_a1,fun n hn=>?_,w_a2,
      ⟨⟨_,_,_,_,_,_,X _ _ w_init,rfl,rfl⟩,codeRec_of X w_icode,23,_,_,_,_,_,_,_,rfl,X _ _ w_23,rfl⟩,w_a3,w_a4⟩
    · unfold excObj
      rw [he]
      exact X _ _ w_cls
    · have:=List.all_eq_true.mp (w_at (P:=P)) n hn
      exact Option.isNone_iff_eq_none.mp this
  raised:=by rw [he];exact mg_of X G w_raised
  noExc:=w_no X G (by decide)
  error:=by
    refine ⟨45,38,(funIn (kH P) 45).code,_,_,_,?_,X _ _ w_38,rfl,.tuple (X _ _ w_37) rfl rfl (.cons (.str _ _) .nil)⟩
    have:=w_error.at_ X G
    rw [w_edfl] at this
    exact this
end
theorem in_recs:∀ p ∈ fnPlaces,p.1 ≠ "command_at"→p ∈ recP:=by decide
theorem is_cmd:∀ p ∈ fnPlaces,p.1 = "command_at"→p = (("command_at":Str),21):=by decide
theorem fnAt_top {C:Cx} {loose:List Str} {mean:ExcName→Option Value} (T:Top vw loose mean C.mg C.mb C.base) {p:Str × Nat} (h:p ∈ recP):∃ f cd,FnAt C p.1 f (paramsOf (stm p.2)) (bodyOf (stm p.2)) (scopeOf (stm p.2)) .none cd:=by
  obtain ⟨a,o,pm,code,doc,h1,h2,h3,h4⟩:=T.fn (recOf p) (by rw [recs_vw];exact List.mem_map_of_mem h)
  exact ⟨a,code,h1,⟨o,.none,doc,pm,none,.none,h2,h3⟩,h4⟩
theorem w_of {P:Params} {C:Cx} {loose:List Str} {mean:ExcName→Option Value} (X:(kH P).In C.base) (T:Top vw loose mean C.mg C.mb C.base) (he:C.exc = 33):W C where
  G:=⟨T.g,T.b,T.nolimit,T.builtins⟩
  X:=w_exf X T.g he
  fns:=fun p hp=>by
    by_cases hc:p.1 = "command_at"
    · have:=is_cmd p hp hc
      subst this
      have h:=w_cmd.at_ X T.g
      exact ⟨_,_,_,h,fun e=>absurd rfl e,fun _=>⟨158,_,_,w_cdfl,X _ _ w_158,rfl⟩⟩
    · obtain ⟨f,cd,h⟩:=fnAt_top T (in_recs p hp hc)
      exact ⟨f,_,cd,h,fun _=>rfl,fun e=>absurd e hc⟩
  no:=fun n hn=>w_no X T.g (by
    simp only [List.mem_cons,List.not_mem_nil,or_false] at hn ⊢
    rcases hn with h | h | h | h | h <;> simp [h])
end Mine
end
open PySem PySem.W PyProof.Rows PySem.Spec PySem.Calls
namespace Mine
theorem head_end {prog:Program} {w:World} {A:Around} {s₁:Shared} {mg mb:Str→Option Value} {loose:List Str} {mean:ExcName→Option Value} {h₁:Heap} {tk₁:Tok} {L fa:Addr} {cd:Value} {m:Str→Option Value} {S0:Addr} {ws:List Value} {script:List Int} {co:Obj} {cv:Option Value} {Q:Flow→Shared→Prop} {E:Value→Shared→Prop}
    (X:(kH w.params).In s₁.heap) (T:Top vw loose mean mg mb s₁.heap) (F:Fr s₁.heap L h₁ m) (hm:m "script" = some (.ref S0)) (hL:s₁.heap.IsList S0 ws.toArray) (hI:IntsAre ws script) (hcond:¬ (63:Int) < (script.length:Int))
    (N0:News s₁.heap L h₁ [(L + 1,co)]) (hco:co.data = .cell cv) (hR:Room A [lenv L fa cd] 344) (hE:PassesOwn (model prog w) A (lenv L fa cd) E)
    (post:∀ h' tk,(∃ m,Fr s₁.heap L h' m)→Q (.ret (.bool true)) { s₁ with heap:=h',toks:=tk }) :
    wpAny (model prog w) A (execs (bodyOf (stm 32)) (lenv L fa cd)) Q E { s₁ with heap:=h₁,toks:=tk₁ }:=by
  have W:=w_of (C:={ prog:=prog,w:=w,base:=s₁.heap,mg:=mg,mb:=mb,exc:=33 }) X T rfl
  obtain ⟨f1,c1,h1⟩:=fnAt_top (C:={ prog:=prog,w:=w,base:=s₁.heap,mg:=mg,mb:=mb,exc:=33 }) T (p:=("_law_pieces",23)) (by decide)
  obtain ⟨f2,c2,h2⟩:=fnAt_top (C:={ prog:=prog,w:=w,base:=s₁.heap,mg:=mg,mb:=mb,exc:=33 }) T (p:=("_law_told_texts",24)) (by decide)
  exact law_end (C:={ prog:=prog,w:=w,base:=s₁.heap,mg:=mg,mb:=mb,exc:=33 }) rfl W (w_no X T.g (by decide)) (w_no X T.g (by decide)) h1 h2 hR hE F hm hL hI hcond (N0 (L + 1,co) (.head _)).1 hco post
end Mine
local macro_rules | `(tactic| k_qdec)=>`(tactic| first | exact Mine.vw_names | exact Mine.vw_imp)
open Mine
theorem PySem.Challenge.cw_oj0050_01_holds : PySem.Challenge.rw_oj0050_01.Holds := by
  refine holds_law said_ok fun said => ?_
  refine holds_open (q := vw) (loose := lo) (Xt := fun s => xlAt vw [] s && recOk (RowW.records RR) s) (XP := XL vw []) (Yf := Hook.obs Hk) (Ya := Hook.val Hk) (YP := Hook.says Hk) (N := 2478) left_ok (Hook.of Hk) (Hook.keeps Hk) (fun s e => xl_of s (Bool.and_eq_true_iff.mp e).1) XL.keeps (by rfl) (by rfl) (by rfl) (fun s e => recFacts_of (Bool.and_eq_true_iff.mp e).2) (by rfl) said (by kernel_rfl) ⟨rfl, rfl, rfl, rfl, rfl, by decide +kernel⟩ ?hw ?hc
  case hw => w_witness2
  k_go0
  refine head_end ‹Frag.In _ _› ‹Top _ _ _ _ _ _› ‹Fr _ _ _ _› rfl ‹Heap.IsList _ _ _› ‹IntsAre _ _› ‹¬ _ < _› ‹News _ _ _ _› ‹Obj.data _ = Data.cell _› ?hR ?hE ?_
  case hR => exact ⟨rfl, rfl, (show (302 : Nat) + 344 < 1000 by decide), (show (7 : Nat) + 4 * 344 + 3000 < 9900 by decide)⟩
  case hE => first | exact PassesOwn.leaving | passes_own
  rintro h' tk ⟨m', F'⟩
  refine goodW_bool F' ‹_› (raisesW_false ?_) ?_ rfl
  · wrow_none_raised
  · wrow_post
