import PyProof.Rows.All
import Wide.All
import OpenK.AllK
import Wide.FinOn
import KE.KStateDown
import KE.SortData
import KE.DataMinMax
import KE.DatumOrd
import HandS.ForMost
import HandS.Exc
import HandS.More
import HandS.Defaults
import HandS.Deep
import HandS.Style
import HandS.Star
import HandS.SetKeys
import HandS.TupSets
import HandS.SortKw
import HandS.Head0
import HandS.Head1
import HandS.Head2
import HandS.HeadEnd
import HandS.HeadHook1
import HandS.HeadHook2
import PySem.Challenge.RW_spoolbox_k42_whole_cut_out_of_a_join
set_option Elab.async false
set_option linter.all false
set_option maxRecDepth 100000
set_option maxHeartbeats 0
noncomputable section
namespace Sp
open PySem PySem.W PySem.Calls PyProof.Rows HandSHeadRun
abbrev P0 : Program := PySem.Challenge.pw_spoolbox_k42_whole_cut_out_of_a_join
def tp (i : Nat) : Stmt := P0.main.body.getD i (.Pass ⟨0, 0, 0, 0⟩)
/-! ### the state behind k error classes, written out as a function of k -/
def errN : List Str := (["OutOfRange", "LooseNumber", "Truncated", "BadStuffing", "BadKind", "BadStamp", "BadNumber", "BadTrack", "BadOrdinal", "BadTime"] : List Str) ++ (["BadSpan", "BadKey", "BadSize", "ShortBody", "BadCheck", "NotAPresentation", "BadChange", "BadBody", "BadStart", "CutOff"] : List Str) ++ (["EmptyPiece", "OtherStamp", "WrongNumber", "WrongOrder", "WrongFields", "NoTrack", "TooManyUnits", "WrongOrdinal", "WrongTime", "WrongKey"] : List Str) ++ (["WrongEntry", "WrongCount", "WrongSum", "MissingUnits", "Behind", "NoEnd", "NotAlike", "HasSkip", "TooLong", "TooManyTags"] : List Str)
def en (P : Params) (x : Str) (tk : Nat) (v : Value) : DictEntry := { hash := PyData.keyHash P x, key := .str x tk, val := v }
def oT (vs : List Value) : Obj := { cls := .type "tuple", data := .seq vs.toArray }
def oB (b : String) (v : Value) : Obj := { cls := .type "builtin_function_or_method", data := .fields #[.builtin b, v] }
def oD (es : List DictEntry) (n : Nat) : Obj := { cls := .type "dict", data := .dict es.toArray n }
def oC (x q : Str) (t : Nat) (l na fl : Int) (a c : Addr) (bo : Bool) (e1 e2 e3 : Value) (u : Nat) : Obj :=
  { cls := .type "code", data := .fields #[.str x t, .str q (t + 1), .str "/claim/cut.py" (t + 2), .int l 0, .int na 0, .int 0 0, .int 0 0, .int fl 0, .ref a, .bool bo, .int 181 0, .ref c, .none, e1, e2, e3,
    .int (u : Nat) 0, .int l 0, .str "/claim/cut.py" (u + 1)] }
def oF (c ns : Addr) (m : Value) : Obj := { cls := .type "frame", slots := #[some (.ref c), some (.ref 3), some (.ref ns), none, some m, none, some (.ref 0)] }
def mE : Value := .str "spoolbox.errors" 194
def oK (x : Str) (bs : List Value) (mro : List Value) (ns : Addr) (sub : List Value) (a t q : Nat) : Obj :=
  { cls := .type "type", data := .cls { name := x, bases := bs, mro := mro ++ [.type "ValueError", .type "Exception", .type "BaseException", .type "object"], ns := ns, qualname := x, subclasses := sub },
    slots := #[some (.ref a), none, some (.str x t), some (.str x q), some (.builtin "ValueError.__new__"), some (.bool true)] }
def oS (c : Addr) : Obj := { cls := .type "super", data := .fields #[.ref c, .ref c, .ref c] }
def errO (P : Params) (i : Nat) (x : Str) : List Obj :=
  [oT [.ref 38], oB "type.__prepare__" (.type "type"),
   oD [en P "__module__" (230 + 16 * i) mE, en P "__qualname__" (232 + 16 * i) (.str x (231 + 16 * i)), en P "__firstlineno__" (234 + 16 * i) (.int (10 + 2 * i : Nat) (233 + 16 * i)), en P "__static_attributes__" (235 + 16 * i) (.ref (49 + 12 * i))] 4,
   oT [], { cls := .none, data := .fields #[] }, oC x x (225 + 16 * i) (10 + 2 * i : Nat) 0 0 (45 + 12 * i) (46 + 12 * i) false .none .none .none (228 + 16 * i), oF (47 + 12 * i) (44 + 12 * i) mE, oT [],
   oD [en P "__module__" (230 + 16 * i) mE, en P "__firstlineno__" (234 + 16 * i) (.int (10 + 2 * i : Nat) (233 + 16 * i)), en P "__static_attributes__" (235 + 16 * i) (.ref (49 + 12 * i)), en P "__doc__" (236 + 16 * i) .none] 2,
   oK x [.ref 38] [.ref (51 + 12 * i), .ref 38] (50 + 12 * i) [] (42 + 12 * i) (223 + 16 * i) (231 + 16 * i), oS (51 + 12 * i), oB "object.__init_subclass__" (.ref (51 + 12 * i))]
def errF (k : Nat) {α : Type} (f : Nat → Str → List α) : List α := ((errN.take k).zipIdx.flatMap fun p => f p.2 p.1)
def glo0 (P : Params) : List DictEntry := [en P "__name__" 165 mE, en P "__doc__" 166 .none, en P "__package__" 167 .none, en P "__loader__" 168 (.builtin "__main__.__loader__#opaque"), en P "__spec__" 169 .none, en P "__annotations__" 170 (.ref 6),
  en P "__builtins__" 171 (.ref 4), en P "__file__" 173 (.str "/claim/cut.py" 172), en P "__cached__" 174 .none, en P "_wall" 193 (.ref 21), en P "SpoolboxError" 222 (.ref 38)]
def fnO (gl : Addr) (x q : Str) (st : Stmt) (m : Value) (c : Value) (ty : Value) : Obj :=
  { cls := ty, data := .func { name := x, qualname := q, params := L2.defArgs st, body := .stmts (L2.defBody st), scope := L2.defScope st, globals := gl, closure := [], defaults := .none, kwdefaults := .none, pyModule := m, code := c } }
def obsL (P : Params) (k : Nat) : List Obj :=
  [boot_o_0 P, boot_o_1 P, boot_o_2 P, oD (glo0 P ++ errF (α := DictEntry) k fun i x => [en P x (238 + 16 * i) (.ref (51 + 12 * i))]) (11 + k), boot_o_4 P, boot_o_5 P, boot_o_6 P, boot_o_7 P, boot_o_8 P, boot_o_9 P, boot_o_10 P,
   oT [], { cls := .none, data := .fields (([.int 1 0, .int 0 0, .ref 20, .int 5 0, .int 0 0, .ref 27] : List Value) ++ errF (α := Value) k fun i _ => [.int (10 + 2 * i : Nat) 0, .int 0 0, .ref (47 + 12 * i)]).toArray },
   oC "<module>" "<module>" 182 1 0 0 11 12 false .none .none .none 185, oF 13 3 (.str "__main__" 164),
   oT [], { cls := .none, data := .fields #[] }, oT [.str "k" 190], oT [], fnO 0 "_wall" "_wall" (tp 0) .none .none .none, oC "_wall" "_wall" 187 1 1 3 15 16 true (.ref 17) (.ref 18) (.ref 19) 191, fnO 3 "_wall" "_wall" (tp 0) (.str "__main__" 164) (.ref 20) (.type "function"),
   oT [.type "ValueError"], oB "type.__prepare__" (.type "type"),
   oD [en P "__module__" 203 mE, en P "__qualname__" 205 (.str "SpoolboxError" 204), en P "__firstlineno__" 207 (.int 5 206), en P "__init__" 215 (.ref 35), en P "__static_attributes__" 217 (.ref 36)] 5,
   oT [], { cls := .none, data := .fields #[.int 7 0, .int 4 0, .ref 34] }, oC "SpoolboxError" "SpoolboxError" 198 5 0 0 25 26 false .none .none .none 201, oF 27 24 mE,
   oT [], { cls := .none, data := .fields #[] }, oT [.str "self" 211, .str "at" 212], oT [], fnO 0 "__init__" "SpoolboxError.__init__" (L2.inClass (tp 2) 0) .none .none .none, oC "__init__" "SpoolboxError.__init__" 208 7 2 3 29 30 true (.ref 31) (.ref 32) (.ref 33) 213,
   fnO 3 "__init__" "SpoolboxError.__init__" (L2.inClass (tp 2) 0) mE (.ref 34) (.type "function"), oT [.str "at" 216],
   oD [en P "__module__" 203 mE, en P "__firstlineno__" 207 (.int 5 206), en P "__init__" 215 (.ref 35), en P "__static_attributes__" 217 (.ref 36), en P "__weakref__" 219 (.ref 39), en P "__doc__" 220 .none] 3,
   oK "SpoolboxError" [.type "ValueError"] [.ref 38] 37 (errF (α := Value) k fun i _ => [.ref (51 + 12 * i)]) 22 196 204,
   { cls := .type "getset_descriptor", data := .fields #[.str "__weakref__" 218, .ref 38, .builtin "ExceptionGroup.__weakref__", .none] }, oS 38, oB "object.__init_subclass__" (.ref 38)] ++ errF (α := Obj) k fun i x => errO P i x
def tr (os : List Obj) : BT := (os.foldl (fun (x : BT × Nat) o => (x.1.ins x.2 o, x.2 + 1)) (.nil, 0)).1
def oz (P : Params) (i : Nat) : Obj := (obsL P 40).getD i default
def oe (P : Params) (i : Nat) (x : Str) (m : Nat) : Obj := (errO P i x).getD m default
def sub0 (P : Params) : BT := (.node (oz P 7) (.node (oz P 15) (.node (oz P 31) (.node (oe P 1 "LooseNumber" 9) (.node (oe P 7 "BadTrack" 1) (.node (oe P 17 "BadBody" 9) (.node (oe P 39 "TooManyTags" 1) .nil .nil) .nil) (.node (oe P 28 "WrongTime" 5) .nil .nil)) (.node (oe P 12 "BadSize" 5) (.node (oe P 23 "WrongOrder" 1) .nil .nil) (.node (oe P 33 "MissingUnits" 9) .nil .nil))) (.node (oe P 4 "BadKind" 5) (.node (oe P 9 "BadTime" 9) (.node (oe P 20 "EmptyPiece" 5) .nil .nil) (.node (oe P 31 "WrongCount" 1) .nil .nil)) (.node (oe P 15 "NotAPresentation" 1) (.node (oe P 25 "NoTrack" 9) .nil .nil) (.node (oe P 36 "NotAlike" 5) .nil .nil)))) (.node (oe P 0 "OutOfRange" 5) (.node (oe P 3 "BadStuffing" 1) (.node (oe P 8 "BadOrdinal" 5) (.node (oe P 19 "CutOff" 1) .nil .nil) (.node (oe P 29 "WrongKey" 9) .nil .nil)) (.node (oe P 13 "ShortBody" 9) (.node (oe P 24 "WrongFields" 5) .nil .nil) (.node (oe P 35 "NoEnd" 1) .nil .nil))) (.node (oe P 5 "BadStamp" 9) (.node (oe P 11 "BadKey" 1) (.node (oe P 21 "OtherStamp" 9) .nil .nil) (.node (oe P 32 "WrongSum" 5) .nil .nil)) (.node (oe P 16 "BadChange" 5) (.node (oe P 27 "WrongOrdinal" 1) .nil .nil) (.node (oe P 37 "HasSkip" 9) .nil .nil))))) (.node (oz P 23) (.node (oz P 39) (.node (oe P 2 "Truncated" 5) (.node (oe P 7 "BadTrack" 9) (.node (oe P 18 "BadStart" 5) (.node (oe P 39 "TooManyTags" 9) .nil .nil) .nil) (.node (oe P 29 "WrongKey" 1) .nil .nil)) (.node (oe P 13 "ShortBody" 1) (.node (oe P 23 "WrongOrder" 9) .nil .nil) (.node (oe P 34 "Behind" 5) .nil .nil))) (.node (oe P 5 "BadStamp" 1) (.node (oe P 10 "BadSpan" 5) (.node (oe P 21 "OtherStamp" 1) .nil .nil) (.node (oe P 31 "WrongCount" 9) .nil .nil)) (.node (oe P 15 "NotAPresentation" 9) (.node (oe P 26 "TooManyUnits" 5) .nil .nil) (.node (oe P 37 "HasSkip" 1) .nil .nil)))) (.node (oe P 1 "LooseNumber" 1) (.node (oe P 3 "BadStuffing" 9) (.node (oe P 9 "BadTime" 1) (.node (oe P 19 "CutOff" 9) .nil .nil) (.node (oe P 30 "WrongEntry" 5) .nil .nil)) (.node (oe P 14 "BadCheck" 5) (.node (oe P 25 "NoTrack" 1) .nil .nil) (.node (oe P 35 "NoEnd" 9) .nil .nil))) (.node (oe P 6 "BadNumber" 5) (.node (oe P 11 "BadKey" 9) (.node (oe P 22 "WrongNumber" 5) .nil .nil) (.node (oe P 33 "MissingUnits" 1) .nil .nil)) (.node (oe P 17 "BadBody" 1) (.node (oe P 27 "WrongOrdinal" 9) .nil .nil) (.node (oe P 38 "TooLong" 5) .nil .nil))))))
def sub1 (P : Params) : BT := (.node (oz P 11) (.node (oz P 19) (.node (oz P 35) (.node (oe P 2 "Truncated" 1) (.node (oe P 7 "BadTrack" 5) (.node (oe P 18 "BadStart" 1) (.node (oe P 39 "TooManyTags" 5) .nil .nil) .nil) (.node (oe P 28 "WrongTime" 9) .nil .nil)) (.node (oe P 12 "BadSize" 9) (.node (oe P 23 "WrongOrder" 5) .nil .nil) (.node (oe P 34 "Behind" 1) .nil .nil))) (.node (oe P 4 "BadKind" 9) (.node (oe P 10 "BadSpan" 1) (.node (oe P 20 "EmptyPiece" 9) .nil .nil) (.node (oe P 31 "WrongCount" 5) .nil .nil)) (.node (oe P 15 "NotAPresentation" 5) (.node (oe P 26 "TooManyUnits" 1) .nil .nil) (.node (oe P 36 "NotAlike" 9) .nil .nil)))) (.node (oe P 0 "OutOfRange" 9) (.node (oe P 3 "BadStuffing" 5) (.node (oe P 8 "BadOrdinal" 9) (.node (oe P 19 "CutOff" 5) .nil .nil) (.node (oe P 30 "WrongEntry" 1) .nil .nil)) (.node (oe P 14 "BadCheck" 1) (.node (oe P 24 "WrongFields" 9) .nil .nil) (.node (oe P 35 "NoEnd" 5) .nil .nil))) (.node (oe P 6 "BadNumber" 1) (.node (oe P 11 "BadKey" 5) (.node (oe P 22 "WrongNumber" 1) .nil .nil) (.node (oe P 32 "WrongSum" 9) .nil .nil)) (.node (oe P 16 "BadChange" 9) (.node (oe P 27 "WrongOrdinal" 5) .nil .nil) (.node (oe P 38 "TooLong" 1) .nil .nil))))) (.node (oz P 27) (.node (oe P 0 "OutOfRange" 1) (.node (oe P 2 "Truncated" 9) (.node (oe P 8 "BadOrdinal" 1) (.node (oe P 18 "BadStart" 9) .nil .nil) (.node (oe P 29 "WrongKey" 5) .nil .nil)) (.node (oe P 13 "ShortBody" 5) (.node (oe P 24 "WrongFields" 1) .nil .nil) (.node (oe P 34 "Behind" 9) .nil .nil))) (.node (oe P 5 "BadStamp" 5) (.node (oe P 10 "BadSpan" 9) (.node (oe P 21 "OtherStamp" 5) .nil .nil) (.node (oe P 32 "WrongSum" 1) .nil .nil)) (.node (oe P 16 "BadChange" 1) (.node (oe P 26 "TooManyUnits" 9) .nil .nil) (.node (oe P 37 "HasSkip" 5) .nil .nil)))) (.node (oe P 1 "LooseNumber" 5) (.node (oe P 4 "BadKind" 1) (.node (oe P 9 "BadTime" 5) (.node (oe P 20 "EmptyPiece" 1) .nil .nil) (.node (oe P 30 "WrongEntry" 9) .nil .nil)) (.node (oe P 14 "BadCheck" 9) (.node (oe P 25 "NoTrack" 5) .nil .nil) (.node (oe P 36 "NotAlike" 1) .nil .nil))) (.node (oe P 6 "BadNumber" 9) (.node (oe P 12 "BadSize" 1) (.node (oe P 22 "WrongNumber" 9) .nil .nil) (.node (oe P 33 "MissingUnits" 5) .nil .nil)) (.node (oe P 17 "BadBody" 5) (.node (oe P 28 "WrongTime" 1) .nil .nil) (.node (oe P 38 "TooLong" 9) .nil .nil))))))
def sub2 (P : Params) : BT := (.node (oz P 9) (.node (oz P 17) (.node (oz P 33) (.node (oe P 1 "LooseNumber" 11) (.node (oe P 7 "BadTrack" 3) (.node (oe P 17 "BadBody" 11) (.node (oe P 39 "TooManyTags" 3) .nil .nil) .nil) (.node (oe P 28 "WrongTime" 7) .nil .nil)) (.node (oe P 12 "BadSize" 7) (.node (oe P 23 "WrongOrder" 3) .nil .nil) (.node (oe P 33 "MissingUnits" 11) .nil .nil))) (.node (oe P 4 "BadKind" 7) (.node (oe P 9 "BadTime" 11) (.node (oe P 20 "EmptyPiece" 7) .nil .nil) (.node (oe P 31 "WrongCount" 3) .nil .nil)) (.node (oe P 15 "NotAPresentation" 3) (.node (oe P 25 "NoTrack" 11) .nil .nil) (.node (oe P 36 "NotAlike" 7) .nil .nil)))) (.node (oe P 0 "OutOfRange" 7) (.node (oe P 3 "BadStuffing" 3) (.node (oe P 8 "BadOrdinal" 7) (.node (oe P 19 "CutOff" 3) .nil .nil) (.node (oe P 29 "WrongKey" 11) .nil .nil)) (.node (oe P 13 "ShortBody" 11) (.node (oe P 24 "WrongFields" 7) .nil .nil) (.node (oe P 35 "NoEnd" 3) .nil .nil))) (.node (oe P 5 "BadStamp" 11) (.node (oe P 11 "BadKey" 3) (.node (oe P 21 "OtherStamp" 11) .nil .nil) (.node (oe P 32 "WrongSum" 7) .nil .nil)) (.node (oe P 16 "BadChange" 7) (.node (oe P 27 "WrongOrdinal" 3) .nil .nil) (.node (oe P 37 "HasSkip" 11) .nil .nil))))) (.node (oz P 25) (.node (oz P 41) (.node (oe P 2 "Truncated" 7) (.node (oe P 7 "BadTrack" 11) (.node (oe P 18 "BadStart" 7) (.node (oe P 39 "TooManyTags" 11) .nil .nil) .nil) (.node (oe P 29 "WrongKey" 3) .nil .nil)) (.node (oe P 13 "ShortBody" 3) (.node (oe P 23 "WrongOrder" 11) .nil .nil) (.node (oe P 34 "Behind" 7) .nil .nil))) (.node (oe P 5 "BadStamp" 3) (.node (oe P 10 "BadSpan" 7) (.node (oe P 21 "OtherStamp" 3) .nil .nil) (.node (oe P 31 "WrongCount" 11) .nil .nil)) (.node (oe P 15 "NotAPresentation" 11) (.node (oe P 26 "TooManyUnits" 7) .nil .nil) (.node (oe P 37 "HasSkip" 3) .nil .nil)))) (.node (oe P 1 "LooseNumber" 3) (.node (oe P 3 "BadStuffing" 11) (.node (oe P 9 "BadTime" 3) (.node (oe P 19 "CutOff" 11) .nil .nil) (.node (oe P 30 "WrongEntry" 7) .nil .nil)) (.node (oe P 14 "BadCheck" 7) (.node (oe P 25 "NoTrack" 3) .nil .nil) (.node (oe P 35 "NoEnd" 11) .nil .nil))) (.node (oe P 6 "BadNumber" 7) (.node (oe P 11 "BadKey" 11) (.node (oe P 22 "WrongNumber" 7) .nil .nil) (.node (oe P 33 "MissingUnits" 3) .nil .nil)) (.node (oe P 17 "BadBody" 3) (.node (oe P 27 "WrongOrdinal" 11) .nil .nil) (.node (oe P 38 "TooLong" 7) .nil .nil))))))
def sub3 (P : Params) : BT := (.node (oz P 13) (.node (oz P 21) (.node (oz P 37) (.node (oe P 2 "Truncated" 3) (.node (oe P 7 "BadTrack" 7) (.node (oe P 18 "BadStart" 3) (.node (oe P 39 "TooManyTags" 7) .nil .nil) .nil) (.node (oe P 28 "WrongTime" 11) .nil .nil)) (.node (oe P 12 "BadSize" 11) (.node (oe P 23 "WrongOrder" 7) .nil .nil) (.node (oe P 34 "Behind" 3) .nil .nil))) (.node (oe P 4 "BadKind" 11) (.node (oe P 10 "BadSpan" 3) (.node (oe P 20 "EmptyPiece" 11) .nil .nil) (.node (oe P 31 "WrongCount" 7) .nil .nil)) (.node (oe P 15 "NotAPresentation" 7) (.node (oe P 26 "TooManyUnits" 3) .nil .nil) (.node (oe P 36 "NotAlike" 11) .nil .nil)))) (.node (oe P 0 "OutOfRange" 11) (.node (oe P 3 "BadStuffing" 7) (.node (oe P 8 "BadOrdinal" 11) (.node (oe P 19 "CutOff" 7) .nil .nil) (.node (oe P 30 "WrongEntry" 3) .nil .nil)) (.node (oe P 14 "BadCheck" 3) (.node (oe P 24 "WrongFields" 11) .nil .nil) (.node (oe P 35 "NoEnd" 7) .nil .nil))) (.node (oe P 6 "BadNumber" 3) (.node (oe P 11 "BadKey" 7) (.node (oe P 22 "WrongNumber" 3) .nil .nil) (.node (oe P 32 "WrongSum" 11) .nil .nil)) (.node (oe P 16 "BadChange" 11) (.node (oe P 27 "WrongOrdinal" 7) .nil .nil) (.node (oe P 38 "TooLong" 3) .nil .nil))))) (.node (oz P 29) (.node (oe P 0 "OutOfRange" 3) (.node (oe P 2 "Truncated" 11) (.node (oe P 8 "BadOrdinal" 3) (.node (oe P 18 "BadStart" 11) .nil .nil) (.node (oe P 29 "WrongKey" 7) .nil .nil)) (.node (oe P 13 "ShortBody" 7) (.node (oe P 24 "WrongFields" 3) .nil .nil) (.node (oe P 34 "Behind" 11) .nil .nil))) (.node (oe P 5 "BadStamp" 7) (.node (oe P 10 "BadSpan" 11) (.node (oe P 21 "OtherStamp" 7) .nil .nil) (.node (oe P 32 "WrongSum" 3) .nil .nil)) (.node (oe P 16 "BadChange" 3) (.node (oe P 26 "TooManyUnits" 11) .nil .nil) (.node (oe P 37 "HasSkip" 7) .nil .nil)))) (.node (oe P 1 "LooseNumber" 7) (.node (oe P 4 "BadKind" 3) (.node (oe P 9 "BadTime" 7) (.node (oe P 20 "EmptyPiece" 3) .nil .nil) (.node (oe P 30 "WrongEntry" 11) .nil .nil)) (.node (oe P 14 "BadCheck" 11) (.node (oe P 25 "NoTrack" 7) .nil .nil) (.node (oe P 36 "NotAlike" 3) .nil .nil))) (.node (oe P 6 "BadNumber" 11) (.node (oe P 12 "BadSize" 3) (.node (oe P 22 "WrongNumber" 11) .nil .nil) (.node (oe P 33 "MissingUnits" 7) .nil .nil)) (.node (oe P 17 "BadBody" 7) (.node (oe P 28 "WrongTime" 3) .nil .nil) (.node (oe P 38 "TooLong" 11) .nil .nil))))))
def sub4 (P : Params) : BT := (.node (oz P 8) (.node (oz P 16) (.node (oz P 32) (.node (oe P 1 "LooseNumber" 10) (.node (oe P 7 "BadTrack" 2) (.node (oe P 17 "BadBody" 10) (.node (oe P 39 "TooManyTags" 2) .nil .nil) .nil) (.node (oe P 28 "WrongTime" 6) .nil .nil)) (.node (oe P 12 "BadSize" 6) (.node (oe P 23 "WrongOrder" 2) .nil .nil) (.node (oe P 33 "MissingUnits" 10) .nil .nil))) (.node (oe P 4 "BadKind" 6) (.node (oe P 9 "BadTime" 10) (.node (oe P 20 "EmptyPiece" 6) .nil .nil) (.node (oe P 31 "WrongCount" 2) .nil .nil)) (.node (oe P 15 "NotAPresentation" 2) (.node (oe P 25 "NoTrack" 10) .nil .nil) (.node (oe P 36 "NotAlike" 6) .nil .nil)))) (.node (oe P 0 "OutOfRange" 6) (.node (oe P 3 "BadStuffing" 2) (.node (oe P 8 "BadOrdinal" 6) (.node (oe P 19 "CutOff" 2) .nil .nil) (.node (oe P 29 "WrongKey" 10) .nil .nil)) (.node (oe P 13 "ShortBody" 10) (.node (oe P 24 "WrongFields" 6) .nil .nil) (.node (oe P 35 "NoEnd" 2) .nil .nil))) (.node (oe P 5 "BadStamp" 10) (.node (oe P 11 "BadKey" 2) (.node (oe P 21 "OtherStamp" 10) .nil .nil) (.node (oe P 32 "WrongSum" 6) .nil .nil)) (.node (oe P 16 "BadChange" 6) (.node (oe P 27 "WrongOrdinal" 2) .nil .nil) (.node (oe P 37 "HasSkip" 10) .nil .nil))))) (.node (oz P 24) (.node (oz P 40) (.node (oe P 2 "Truncated" 6) (.node (oe P 7 "BadTrack" 10) (.node (oe P 18 "BadStart" 6) (.node (oe P 39 "TooManyTags" 10) .nil .nil) .nil) (.node (oe P 29 "WrongKey" 2) .nil .nil)) (.node (oe P 13 "ShortBody" 2) (.node (oe P 23 "WrongOrder" 10) .nil .nil) (.node (oe P 34 "Behind" 6) .nil .nil))) (.node (oe P 5 "BadStamp" 2) (.node (oe P 10 "BadSpan" 6) (.node (oe P 21 "OtherStamp" 2) .nil .nil) (.node (oe P 31 "WrongCount" 10) .nil .nil)) (.node (oe P 15 "NotAPresentation" 10) (.node (oe P 26 "TooManyUnits" 6) .nil .nil) (.node (oe P 37 "HasSkip" 2) .nil .nil)))) (.node (oe P 1 "LooseNumber" 2) (.node (oe P 3 "BadStuffing" 10) (.node (oe P 9 "BadTime" 2) (.node (oe P 19 "CutOff" 10) .nil .nil) (.node (oe P 30 "WrongEntry" 6) .nil .nil)) (.node (oe P 14 "BadCheck" 6) (.node (oe P 25 "NoTrack" 2) .nil .nil) (.node (oe P 35 "NoEnd" 10) .nil .nil))) (.node (oe P 6 "BadNumber" 6) (.node (oe P 11 "BadKey" 10) (.node (oe P 22 "WrongNumber" 6) .nil .nil) (.node (oe P 33 "MissingUnits" 2) .nil .nil)) (.node (oe P 17 "BadBody" 2) (.node (oe P 27 "WrongOrdinal" 10) .nil .nil) (.node (oe P 38 "TooLong" 6) .nil .nil))))))
def sub5 (P : Params) : BT := (.node (oz P 12) (.node (oz P 20) (.node (oz P 36) (.node (oe P 2 "Truncated" 2) (.node (oe P 7 "BadTrack" 6) (.node (oe P 18 "BadStart" 2) (.node (oe P 39 "TooManyTags" 6) .nil .nil) .nil) (.node (oe P 28 "WrongTime" 10) .nil .nil)) (.node (oe P 12 "BadSize" 10) (.node (oe P 23 "WrongOrder" 6) .nil .nil) (.node (oe P 34 "Behind" 2) .nil .nil))) (.node (oe P 4 "BadKind" 10) (.node (oe P 10 "BadSpan" 2) (.node (oe P 20 "EmptyPiece" 10) .nil .nil) (.node (oe P 31 "WrongCount" 6) .nil .nil)) (.node (oe P 15 "NotAPresentation" 6) (.node (oe P 26 "TooManyUnits" 2) .nil .nil) (.node (oe P 36 "NotAlike" 10) .nil .nil)))) (.node (oe P 0 "OutOfRange" 10) (.node (oe P 3 "BadStuffing" 6) (.node (oe P 8 "BadOrdinal" 10) (.node (oe P 19 "CutOff" 6) .nil .nil) (.node (oe P 30 "WrongEntry" 2) .nil .nil)) (.node (oe P 14 "BadCheck" 2) (.node (oe P 24 "WrongFields" 10) .nil .nil) (.node (oe P 35 "NoEnd" 6) .nil .nil))) (.node (oe P 6 "BadNumber" 2) (.node (oe P 11 "BadKey" 6) (.node (oe P 22 "WrongNumber" 2) .nil .nil) (.node (oe P 32 "WrongSum" 10) .nil .nil)) (.node (oe P 16 "BadChange" 10) (.node (oe P 27 "WrongOrdinal" 6) .nil .nil) (.node (oe P 38 "TooLong" 2) .nil .nil))))) (.node (oz P 28) (.node (oe P 0 "OutOfRange" 2) (.node (oe P 2 "Truncated" 10) (.node (oe P 8 "BadOrdinal" 2) (.node (oe P 18 "BadStart" 10) .nil .nil) (.node (oe P 29 "WrongKey" 6) .nil .nil)) (.node (oe P 13 "ShortBody" 6) (.node (oe P 24 "WrongFields" 2) .nil .nil) (.node (oe P 34 "Behind" 10) .nil .nil))) (.node (oe P 5 "BadStamp" 6) (.node (oe P 10 "BadSpan" 10) (.node (oe P 21 "OtherStamp" 6) .nil .nil) (.node (oe P 32 "WrongSum" 2) .nil .nil)) (.node (oe P 16 "BadChange" 2) (.node (oe P 26 "TooManyUnits" 10) .nil .nil) (.node (oe P 37 "HasSkip" 6) .nil .nil)))) (.node (oe P 1 "LooseNumber" 6) (.node (oe P 4 "BadKind" 2) (.node (oe P 9 "BadTime" 6) (.node (oe P 20 "EmptyPiece" 2) .nil .nil) (.node (oe P 30 "WrongEntry" 10) .nil .nil)) (.node (oe P 14 "BadCheck" 10) (.node (oe P 25 "NoTrack" 6) .nil .nil) (.node (oe P 36 "NotAlike" 2) .nil .nil))) (.node (oe P 6 "BadNumber" 10) (.node (oe P 12 "BadSize" 2) (.node (oe P 22 "WrongNumber" 10) .nil .nil) (.node (oe P 33 "MissingUnits" 6) .nil .nil)) (.node (oe P 17 "BadBody" 6) (.node (oe P 28 "WrongTime" 2) .nil .nil) (.node (oe P 38 "TooLong" 10) .nil .nil))))))
def sub6 (P : Params) : BT := (.node (oz P 10) (.node (oz P 18) (.node (oz P 34) (.node (oe P 2 "Truncated" 0) (.node (oe P 7 "BadTrack" 4) (.node (oe P 18 "BadStart" 0) (.node (oe P 39 "TooManyTags" 4) .nil .nil) .nil) (.node (oe P 28 "WrongTime" 8) .nil .nil)) (.node (oe P 12 "BadSize" 8) (.node (oe P 23 "WrongOrder" 4) .nil .nil) (.node (oe P 34 "Behind" 0) .nil .nil))) (.node (oe P 4 "BadKind" 8) (.node (oe P 10 "BadSpan" 0) (.node (oe P 20 "EmptyPiece" 8) .nil .nil) (.node (oe P 31 "WrongCount" 4) .nil .nil)) (.node (oe P 15 "NotAPresentation" 4) (.node (oe P 26 "TooManyUnits" 0) .nil .nil) (.node (oe P 36 "NotAlike" 8) .nil .nil)))) (.node (oe P 0 "OutOfRange" 8) (.node (oe P 3 "BadStuffing" 4) (.node (oe P 8 "BadOrdinal" 8) (.node (oe P 19 "CutOff" 4) .nil .nil) (.node (oe P 30 "WrongEntry" 0) .nil .nil)) (.node (oe P 14 "BadCheck" 0) (.node (oe P 24 "WrongFields" 8) .nil .nil) (.node (oe P 35 "NoEnd" 4) .nil .nil))) (.node (oe P 6 "BadNumber" 0) (.node (oe P 11 "BadKey" 4) (.node (oe P 22 "WrongNumber" 0) .nil .nil) (.node (oe P 32 "WrongSum" 8) .nil .nil)) (.node (oe P 16 "BadChange" 8) (.node (oe P 27 "WrongOrdinal" 4) .nil .nil) (.node (oe P 38 "TooLong" 0) .nil .nil))))) (.node (oz P 26) (.node (oe P 0 "OutOfRange" 0) (.node (oe P 2 "Truncated" 8) (.node (oe P 8 "BadOrdinal" 0) (.node (oe P 18 "BadStart" 8) .nil .nil) (.node (oe P 29 "WrongKey" 4) .nil .nil)) (.node (oe P 13 "ShortBody" 4) (.node (oe P 24 "WrongFields" 0) .nil .nil) (.node (oe P 34 "Behind" 8) .nil .nil))) (.node (oe P 5 "BadStamp" 4) (.node (oe P 10 "BadSpan" 8) (.node (oe P 21 "OtherStamp" 4) .nil .nil) (.node (oe P 32 "WrongSum" 0) .nil .nil)) (.node (oe P 16 "BadChange" 0) (.node (oe P 26 "TooManyUnits" 8) .nil .nil) (.node (oe P 37 "HasSkip" 4) .nil .nil)))) (.node (oe P 1 "LooseNumber" 4) (.node (oe P 4 "BadKind" 0) (.node (oe P 9 "BadTime" 4) (.node (oe P 20 "EmptyPiece" 0) .nil .nil) (.node (oe P 30 "WrongEntry" 8) .nil .nil)) (.node (oe P 14 "BadCheck" 8) (.node (oe P 25 "NoTrack" 4) .nil .nil) (.node (oe P 36 "NotAlike" 0) .nil .nil))) (.node (oe P 6 "BadNumber" 8) (.node (oe P 12 "BadSize" 0) (.node (oe P 22 "WrongNumber" 8) .nil .nil) (.node (oe P 33 "MissingUnits" 4) .nil .nil)) (.node (oe P 17 "BadBody" 4) (.node (oe P 28 "WrongTime" 0) .nil .nil) (.node (oe P 38 "TooLong" 8) .nil .nil))))))
def sub7 (P : Params) : BT := (.node (oz P 14) (.node (oz P 22) (.node (oz P 38) (.node (oe P 2 "Truncated" 4) (.node (oe P 7 "BadTrack" 8) (.node (oe P 18 "BadStart" 4) (.node (oe P 39 "TooManyTags" 8) .nil .nil) .nil) (.node (oe P 29 "WrongKey" 0) .nil .nil)) (.node (oe P 13 "ShortBody" 0) (.node (oe P 23 "WrongOrder" 8) .nil .nil) (.node (oe P 34 "Behind" 4) .nil .nil))) (.node (oe P 5 "BadStamp" 0) (.node (oe P 10 "BadSpan" 4) (.node (oe P 21 "OtherStamp" 0) .nil .nil) (.node (oe P 31 "WrongCount" 8) .nil .nil)) (.node (oe P 15 "NotAPresentation" 8) (.node (oe P 26 "TooManyUnits" 4) .nil .nil) (.node (oe P 37 "HasSkip" 0) .nil .nil)))) (.node (oe P 1 "LooseNumber" 0) (.node (oe P 3 "BadStuffing" 8) (.node (oe P 9 "BadTime" 0) (.node (oe P 19 "CutOff" 8) .nil .nil) (.node (oe P 30 "WrongEntry" 4) .nil .nil)) (.node (oe P 14 "BadCheck" 4) (.node (oe P 25 "NoTrack" 0) .nil .nil) (.node (oe P 35 "NoEnd" 8) .nil .nil))) (.node (oe P 6 "BadNumber" 4) (.node (oe P 11 "BadKey" 8) (.node (oe P 22 "WrongNumber" 4) .nil .nil) (.node (oe P 33 "MissingUnits" 0) .nil .nil)) (.node (oe P 17 "BadBody" 0) (.node (oe P 27 "WrongOrdinal" 8) .nil .nil) (.node (oe P 38 "TooLong" 4) .nil .nil))))) (.node (oz P 30) (.node (oe P 0 "OutOfRange" 4) (.node (oe P 3 "BadStuffing" 0) (.node (oe P 8 "BadOrdinal" 4) (.node (oe P 19 "CutOff" 0) .nil .nil) (.node (oe P 29 "WrongKey" 8) .nil .nil)) (.node (oe P 13 "ShortBody" 8) (.node (oe P 24 "WrongFields" 4) .nil .nil) (.node (oe P 35 "NoEnd" 0) .nil .nil))) (.node (oe P 5 "BadStamp" 8) (.node (oe P 11 "BadKey" 0) (.node (oe P 21 "OtherStamp" 8) .nil .nil) (.node (oe P 32 "WrongSum" 4) .nil .nil)) (.node (oe P 16 "BadChange" 4) (.node (oe P 27 "WrongOrdinal" 0) .nil .nil) (.node (oe P 37 "HasSkip" 8) .nil .nil)))) (.node (oe P 1 "LooseNumber" 8) (.node (oe P 4 "BadKind" 4) (.node (oe P 9 "BadTime" 8) (.node (oe P 20 "EmptyPiece" 4) .nil .nil) (.node (oe P 31 "WrongCount" 0) .nil .nil)) (.node (oe P 15 "NotAPresentation" 0) (.node (oe P 25 "NoTrack" 8) .nil .nil) (.node (oe P 36 "NotAlike" 4) .nil .nil))) (.node (oe P 7 "BadTrack" 0) (.node (oe P 12 "BadSize" 4) (.node (oe P 23 "WrongOrder" 0) .nil .nil) (.node (oe P 33 "MissingUnits" 8) .nil .nil)) (.node (oe P 17 "BadBody" 8) (.node (oe P 28 "WrongTime" 4) .nil .nil) (.node (oe P 39 "TooManyTags" 0) .nil .nil))))))
def tr40 (P : Params) : BT := (.node (oz P 0) (.node (oz P 1) (.node (oz P 3) (sub0 P) (sub1 P)) (.node (oz P 5) (sub2 P) (sub3 P))) (.node (oz P 2) (.node (oz P 4) (sub4 P) (sub5 P)) (.node (oz P 6) (sub6 P) (sub7 P))))
def stE (w : World) (os : OsState) : SharedT := ⟨tr40 w.params, 522, (boot_heap w.params).life, #[], boot_drawn, 863, os⟩
def stS (k : Nat) (w : World) (os : OsState) : SharedT := ⟨tr (obsL w.params k), 42 + 12 * k, (boot_heap w.params).life, #[], boot_drawn, 223 + 16 * k, os⟩
/-! ### the segments -/
def envT : Env := { scope := P0.main.scope, locals := mainNs, globals := mainNs, cells := [], code := .ref 13, frame := some 14 }
def cT0 : Code := .body (behindTheImports P0) envT
abbrev z4 : Pos := ⟨0, 0, 0, 0⟩
def ps : Nat → Pos
  | 0 => ⟨5, 0, 9, 20⟩
  | k + 1 => ⟨10 + 2 * k, 0, 11 + 2 * k, 8⟩
def segF (st : SharedT → Thread → Option (SharedT × Thread)) (n0 : Nat) (ann : Option Value) : Nat → SharedT → Thread → Option (Flow × SharedT × Code × Pos)
  | 0, _, _ => none
  | m + 1, s, t => match endAt 1 t with
    | some f => some (f, s, t.code, t.pos)
    | none => match stepOk n0 ann t with
      | false => none
      | true => match st s t with
        | some (s', t') => frS s' fun s' => segF st n0 ann m s' t'
        | none => none
theorem segF_ok {tb : String → Option Builtin} {p : Program} {w : World} {n0 : Nat} {ann : Option Value} : ∀ {m : Nat} {s : SharedT} {t : Thread} {r : Flow × SharedT × Code × Pos},
    segF (stepT (denote tb) p w) n0 ann m s t = some r → segRunT tb p w n0 ann 1 m s t = some r
  | 0, _, _, _, h => nomatch h
  | m + 1, s, t, r, h => by
    unfold segF at h
    unfold segRunT
    cases e1 : endAt 1 t with
    | some f => rw [e1] at h; exact h
    | none =>
      rw [e1] at h
      cases e2 : stepOk n0 ann t with
      | false => rw [e2] at h; exact nomatch h
      | true =>
        rw [e2] at h
        cases e3 : stepT (denote tb) p w s t with
        | none => rw [e3] at h; exact nomatch h
        | some q =>
          obtain ⟨s2, t2⟩ := q
          rw [e3] at h
          dsimp only at h
          rw [frS_eq] at h
          exact segF_ok h
def goG (st : SharedT → Thread → Option (SharedT × Thread)) (n0 : Nat) (ann : Option Value) : Nat → SharedT → Thread → Option (SharedT × Thread)
  | 0, s, t => some (s, t)
  | m + 1, s, t => match through t with
    | true => none
    | false => match stepOk n0 ann t with
      | false => none
      | true => match st s t with
        | some (s', t') => frS s' fun s' => goG st n0 ann m s' t'
        | none => none
theorem goG_ok {tb : String → Option Builtin} {p : Program} {w : World} {n0 : Nat} {ann : Option Value} : ∀ {m : Nat} {s s' : SharedT} {t t' : Thread},
    goG (stepT (denote tb) p w) n0 ann m s t = some (s', t') → topGo tb p w n0 ann m s.abs t = some (s'.abs, t')
  | 0, s, s', t, t', h => by
    cases h
    rfl
  | m + 1, s, s', t, t', h => by
    unfold goG at h
    unfold topGo
    cases e1 : through t with
    | true => rw [e1] at h; exact nomatch h
    | false =>
      rw [e1] at h
      cases e2 : stepOk n0 ann t with
      | false => rw [e2] at h; exact nomatch h
      | true =>
        rw [e2] at h
        cases e3 : stepT (denote tb) p w s t with
        | none => rw [e3] at h; exact nomatch h
        | some q =>
          obtain ⟨s2, t2⟩ := q
          rw [e3] at h
          dsimp only at h
          rw [frS_eq] at h
          rw [stepT_spec e3]
          exact goG_ok h
def obsP (P : Params) : List Obj := [boot_o_0 P, boot_o_1 P, boot_o_2 P, boot_o_3 P, boot_o_4 P, boot_o_5 P, boot_o_6 P, boot_o_7 P, boot_o_8 P, boot_o_9 P, boot_o_10 P,
  oT [], { cls := .none, data := .fields #[] }, oC "<module>" "<module>" 182 1 0 0 11 12 false .none .none .none 185, oF 13 3 (.str "__main__" 164)]
def stP (w : World) (os : OsState) : SharedT := ⟨tr (obsP w.params), 15, (boot_heap w.params).life, #[], boot_drawn, 187, os⟩
def annT : Option Value := some (.ref 6)
def stQ (w : World) : SharedT → Thread → Option (SharedT × Thread) := stepQ (denQ tabQ) P0 w
theorem stQ_eq (w : World) : stepT (denote treeTable) P0 w = stQ w := by
  unfold stQ
  rw [stepQ_eq, denQ_eq, tabQ_eq]
def bodyT : List Stmt := behindTheImports P0
def bootS (w : World) (os : OsState) : Option SharedT := match putAll (boot_heap w.params).objs.toList .nil 0 with
  | some (t, n) => some (bootT w os (t, n))
  | none => none
theorem bootS_ok {w : World} {os : OsState} {s : SharedT} (h : bootS w os = some s) : s.abs = ⟨boot_heap w.params, #[], boot_drawn, boot_toks, os⟩ := by
  unfold bootS at h
  cases e : putAll (boot_heap w.params).objs.toList .nil 0 with
  | none => rw [e] at h; exact nomatch h
  | some r =>
    obtain ⟨t, n⟩ := r
    rw [e] at h
    cases h
    show (⟨absHeap t n (boot_heap w.params).life, #[], boot_drawn, boot_toks, os⟩ : Shared) = _
    rw [putAll_heap e]
end Sp
end
namespace Sp
open PySem PySem.Spec PyProof.Rows L2
/-! ### the text by places -/
def topS (i : Nat) : Stmt := PySem.Challenge.pw_spoolbox_k42_whole_cut_out_of_a_join.main.body.getD i (.Pass ⟨0, 0, 0, 0⟩)
abbrev s_by_track : Stmt := topS 50
abbrev n_by_track : List Str := ["head", "units", "tracks", "_", "leaf"]
abbrev p_by_track : List Str := ["head", "units"]
abbrev s_moved : Stmt := topS 51
abbrev n_moved : List Str := ["leaf", "ticks"]
abbrev p_moved : List Str := ["leaf", "ticks"]
abbrev s_end_of_units : Stmt := topS 52
abbrev n_end_of_units : List Str := ["units", "leaf"]
abbrev p_end_of_units : List Str := ["units"]
abbrev s_alike : Stmt := topS 54
abbrev n_alike : List Str := ["old", "new", "most", "size"]
abbrev p_alike : List Str := ["old", "new", "most"]
abbrev s_change : Stmt := topS 55
abbrev n_change : List Str := ["old", "new", "least", "front", "back"]
abbrev p_change : List Str := ["old", "new"]
abbrev s_changed : Stmt := topS 56
abbrev n_changed : List Str := ["old", "parts", "front", "back", "middle", "new"]
abbrev p_changed : List Str := ["old", "parts"]
abbrev s_is_line : Stmt := topS 68
abbrev n_is_line : List Str := ["text", "most", "char"]
abbrev p_is_line : List Str := ["text", "most"]
abbrev s_is_word : Stmt := topS 69
abbrev n_is_word : List Str := ["text", "char"]
abbrev p_is_word : List Str := ["text"]
abbrev s_is_row : Stmt := topS 70
abbrev n_is_row : List Str := ["row", "most", "byte"]
abbrev p_is_row : List Str := ["row", "most"]
abbrev s_are_units : Stmt := topS 71
abbrev n_are_units : List Str := ["units", "least", "k", "time", "span", "content", "leans"]
abbrev p_are_units : List Str := ["units"]
abbrev s_step_size : Stmt := topS 72
abbrev n_step_size : List Str := ["number", "size"]
abbrev p_step_size : List Str := ["number"]
abbrev s_are_tags : Stmt := topS 73
abbrev n_are_tags : List Str := ["tags", "size", "k", "key", "value"]
abbrev p_are_tags : List Str := ["tags"]
abbrev s_is_presentation : Stmt := topS 74
abbrev n_is_presentation : List Str := ["value", "ticks", "skip", "tracks", "tags", "name", "kind", "units"]
abbrev p_is_presentation : List Str := ["value"]
abbrev s_end_of : Stmt := topS 75
abbrev n_end_of : List Str := ["presentation", "_", "units", "time", "span"]
abbrev p_end_of : List Str := ["presentation"]
abbrev s_put_steps : Stmt := topS 79
abbrev n_put_steps : List Str := ["number", "out"]
abbrev p_put_steps : List Str := ["number"]
abbrev s_get_steps : Stmt := topS 80
abbrev n_get_steps : List Str := ["row", "at", "number", "k", "byte"]
abbrev p_get_steps : List Str := ["row", "at"]
abbrev s_checksum : Stmt := topS 84
abbrev n_checksum : List Str := ["row", "rest", "value", "_"]
abbrev p_checksum : List Str := ["row"]
abbrev s_four_bytes : Stmt := topS 85
abbrev n_four_bytes : List Str := ["number", "k"]
abbrev p_four_bytes : List Str := ["number"]
abbrev s_number_of : Stmt := topS 86
abbrev n_number_of : List Str := ["row"]
abbrev p_number_of : List Str := ["row"]
abbrev s_char_of : Stmt := topS 93
abbrev n_char_of : List Str := ["byte"]
abbrev p_char_of : List Str := ["byte"]
abbrev s_bytes_of : Stmt := topS 94
abbrev n_bytes_of : List Str := ["text", "char"]
abbrev p_bytes_of : List Str := ["text"]
abbrev s_text_bytes : Stmt := topS 95
abbrev n_text_bytes : List Str := ["text"]
abbrev p_text_bytes : List Str := ["text"]
abbrev s_head_of_rows : Stmt := topS 96
abbrev n_head_of_rows : List Str := ["ticks", "skip", "rows", "body", "name", "kind", "count"]
abbrev p_head_of_rows : List Str := ["ticks", "skip", "rows"]
abbrev s_tags_body : Stmt := topS 97
abbrev n_tags_body : List Str := ["tags", "body", "key", "value"]
abbrev p_tags_body : List Str := ["tags"]
abbrev s_index_body : Stmt := topS 98
abbrev n_index_body : List Str := ["entries", "body", "track", "time", "offset"]
abbrev p_index_body : List Str := ["entries"]
abbrev s_end_body : Stmt := topS 99
abbrev n_end_body : List Str := ["count", "total"]
abbrev p_end_body : List Str := ["count", "total"]
abbrev s_unit_body : Stmt := topS 100
abbrev n_unit_body : List Str := ["unit", "before", "_", "content", "leans", "front", "back", "middle"]
abbrev p_unit_body : List Str := ["unit", "before"]
abbrev s_read_head : Stmt := topS 102
abbrev n_read_head : List Str := ["body", "reader", "ticks", "skip", "rows", "_", "name", "kind"]
abbrev p_read_head : List Str := ["body"]
abbrev s_read_tags : Stmt := topS 103
abbrev n_read_tags : List Str := ["body", "reader", "tags", "_", "key"]
abbrev p_read_tags : List Str := ["body"]
abbrev s_read_index : Stmt := topS 104
abbrev n_read_index : List Str := ["body", "reader", "entries", "_", "track", "time"]
abbrev p_read_index : List Str := ["body"]
abbrev s_read_end : Stmt := topS 105
abbrev n_read_end : List Str := ["body", "reader", "count", "total"]
abbrev p_read_end : List Str := ["body"]
abbrev s_read_content : Stmt := topS 106
abbrev n_read_content : List Str := ["body", "before", "content", "reader", "front", "back"]
abbrev p_read_content : List Str := ["body", "before"]
abbrev s_write_leaf : Stmt := topS 116
abbrev n_write_leaf : List Str := ["leaf", "k", "kind", "stamp", "number", "track", "ordinal", "time", "span", "key", "body", "out", "field"]
abbrev p_write_leaf : List Str := ["leaf"]
abbrev s_small_byte : Stmt := topS 118
abbrev n_small_byte : List Str := ["row", "at", "field"]
abbrev p_small_byte : List Str := ["row", "at", "field"]
abbrev s_word_at : Stmt := topS 119
abbrev n_word_at : List Str := ["row", "at", "field"]
abbrev p_word_at : List Str := ["row", "at", "field"]
abbrev s_steps_at : Stmt := topS 120
abbrev n_steps_at : List Str := ["row", "at", "most", "field", "number", "after"]
abbrev p_steps_at : List Str := ["row", "at", "most", "field"]
abbrev s_read_leaf : Stmt := topS 121
abbrev n_read_leaf : List Str := ["writing", "fields", "at", "field", "number", "size", "start", "stop"]
abbrev p_read_leaf : List Str := ["writing"]
abbrev s_stuff : Stmt := topS 124
abbrev n_stuff : List Str := ["row", "out", "block", "byte"]
abbrev p_stuff : List Str := ["row"]
abbrev s_unstuff : Stmt := topS 125
abbrev n_unstuff : List Str := ["piece", "out", "at", "size"]
abbrev p_unstuff : List Str := ["piece"]
abbrev s_unstuffed : Stmt := topS 127
abbrev n_unstuffed : List Str := ["piece", "number"]
abbrev p_unstuffed : List Str := ["piece", "number"]
abbrev s_leaf_of : Stmt := topS 128
abbrev n_leaf_of : List Str := ["writing", "number"]
abbrev p_leaf_of : List Str := ["writing", "number"]
abbrev s_checked_leaves : Stmt := topS 130
abbrev n_checked_leaves : List Str := ["data", "reader", "leaves", "leaf"]
abbrev p_checked_leaves : List Str := ["data"]
abbrev s_last_key : Stmt := topS 132
abbrev n_last_key : List Str := ["row", "first", "last", "place"]
abbrev p_last_key : List Str := ["row", "first", "last"]
abbrev s_greedy : Stmt := topS 133
abbrev n_greedy : List Str := ["row", "w", "named", "start"]
abbrev p_greedy : List Str := ["row", "w"]
abbrev s_greedy_index : Stmt := topS 134
abbrev n_greedy_index : List Str := ["keys", "w", "index", "k", "places", "place"]
abbrev p_greedy_index : List Str := ["keys", "w"]
abbrev s_best_index : Stmt := topS 135
abbrev n_best_index : List Str := ["keys", "count", "low", "high", "row", "middle", "index"]
abbrev p_best_index : List Str := ["keys", "count"]
abbrev s_write_leaves : Stmt := topS 137
abbrev n_write_leaves : List Str := ["leaves", "out", "leaf"]
abbrev p_write_leaves : List Str := ["leaves"]
abbrev s_in_times : Stmt := topS 140
abbrev n_in_times : List Str := ["tracks", "rows", "k", "j", "_", "track", "ordinal"]
abbrev p_in_times : List Str := ["tracks"]
abbrev s_written : Stmt := topS 141
abbrev n_written : List Str := ["head", "tags", "tracks", "stamp", "order", "entries", "writer", "ticks", "skip", "rows", "k", "found", "track", "ordinal", "time", "span", "key", "body"]
abbrev p_written : List Str := ["head", "tags", "tracks", "stamp", "order", "entries"]
abbrev s_file_from : Stmt := topS 142
abbrev n_file_from : List Str := ["head", "tags", "tracks", "count", "stamp", "keys", "unit", "units", "index"]
abbrev p_file_from : List Str := ["head", "tags", "tracks", "count", "stamp"]
abbrev s_with_bodies : Stmt := topS 143
abbrev n_with_bodies : List Str := ["presentation", "ticks", "skip", "tracks", "_", "rows", "name", "kind", "units", "result", "before", "bodies", "unit"]
abbrev p_with_bodies : List Str := ["presentation"]
abbrev s_write : Stmt := topS 144
abbrev n_write : List Str := ["presentation", "stamp", "most", "head", "tracks"]
abbrev p_write : List Str := ["presentation", "stamp", "most"]
abbrev s_check_alike : Stmt := topS 149
abbrev n_check_alike : List Str := ["first", "second", "k"]
abbrev p_check_alike : List Str := ["first", "second"]
abbrev s_check_length : Stmt := topS 150
abbrev n_check_length : List Str := ["tracks", "units", "end", "k", "before"]
abbrev p_check_length : List Str := ["tracks", "units", "end"]
abbrev s_joined_tags : Stmt := topS 151
abbrev n_joined_tags : List Str := ["first", "second", "known", "key", "_", "tags", "value"]
abbrev p_joined_tags : List Str := ["first", "second"]
abbrev s_join : Stmt := topS 152
abbrev n_join : List Str := ["first", "second", "count", "stamp", "head", "tags", "units", "_", "other", "more_tags", "more", "end", "tracks", "added", "moves", "k", "leaf"]
abbrev p_join : List Str := ["first", "second", "count", "stamp"]
abbrev s_taken : Stmt := topS 154
abbrev n_taken : List Str := ["leaves", "start", "stop", "first", "k", "leaf"]
abbrev p_taken : List Str := ["leaves", "start", "stop"]
abbrev s_cut : Stmt := topS 155
abbrev n_cut : List Str := ["file", "start", "stop", "count", "stamp", "head", "tags", "units", "_", "ticks", "skip", "rows", "tracks", "leaves", "base", "leaf", "moves"]
abbrev p_cut : List Str := ["file", "start", "stop", "count", "stamp"]
abbrev s_shown : Stmt := topS 157
abbrev n_shown : List Str := ["presentation", "start", "stop", "out", "_", "units", "row", "time", "span", "content"]
abbrev p_shown : List Str := ["presentation", "start", "stop"]
abbrev s_whole_show : Stmt := topS 158
abbrev n_whole_show : List Str := ["presentation"]
abbrev p_whole_show : List Str := ["presentation"]
abbrev s_copied : Stmt := topS 160
abbrev n_copied : List Str := ["units", "time", "span", "content", "leans"]
abbrev p_copied : List Str := ["units"]
abbrev s_read : Stmt := topS 163
abbrev n_read : List Str := ["data", "reader"]
abbrev p_read : List Str := ["data"]
abbrev s_lw_draws : Stmt := topS 165
abbrev n_lw_draws : List Str := ["_law_script", "_law_draws_here", "_law_k", "_law_rest", "_law_turn", "_law_mixed"]
abbrev p_lw_draws : List Str := ["_law_script"]
abbrev s_lw_at : Stmt := topS 166
abbrev n_lw_at : List Str := ["_law_draws_here", "_law_k", "_law_many"]
abbrev p_lw_at : List Str := ["_law_draws_here", "_law_k", "_law_many"]
abbrev s_lw_mix : Stmt := topS 169
abbrev n_lw_mix : List Str := ["_law_draws_here", "_law_k", "_law_many", "_law_value"]
abbrev p_lw_mix : List Str := ["_law_draws_here", "_law_k", "_law_many"]
abbrev s_lw_content : Stmt := topS 170
abbrev n_lw_content : List Str := ["_law_draws_here", "_law_k", "_law_before", "_law_place", "_law_stop", "_law_more", "_law_j", "_law_size"]
abbrev p_lw_content : List Str := ["_law_draws_here", "_law_k", "_law_before"]
abbrev s_lw_units : Stmt := topS 171
abbrev n_lw_units : List Str := ["_law_draws_here", "_law_k", "_law_many", "_law_units_here", "_law_content_here", "_law_least", "_law_scale", "_law_j", "_law_at_here", "_law_time", "_law_span", "_law_leans"]
abbrev p_lw_units : List Str := ["_law_draws_here", "_law_k", "_law_many"]
abbrev s_lw_tags : Stmt := topS 172
abbrev n_lw_tags : List Str := ["_law_draws_here", "_law_k", "_law_words", "_law_out", "_law_j"]
abbrev p_lw_tags : List Str := ["_law_draws_here", "_law_k"]
abbrev s_lw_presentation : Stmt := topS 173
abbrev n_lw_presentation : List Str := ["_law_draws_here", "_law_k", "_law_alike", "_law_names", "_law_kinds", "_law_tracks", "_law_j", "_law_units_here", "_law_skip"]
abbrev p_lw_presentation : List Str := ["_law_draws_here", "_law_k", "_law_alike"]
abbrev s_law : Stmt := topS 174
abbrev n_law : List Str := ["_law_script", "_law_draws_here", "_law_one", "_law_two", "_law_file", "_law_both", "_law_end", "_law_stop", "_law_made"]
abbrev p_law : List Str := ["_law_script"]
abbrev s_BodyReader_init : Stmt := inClass (topS 101) 0
abbrev n_BodyReader_init : List Str := ["self", "body"]
abbrev p_BodyReader_init : List Str := ["self", "body"]
abbrev s_BodyReader_number : Stmt := inClass (topS 101) 1
abbrev n_BodyReader_number : List Str := ["self", "least", "most", "number", "after"]
abbrev p_BodyReader_number : List Str := ["self", "least", "most"]
abbrev s_BodyReader_take : Stmt := inClass (topS 101) 2
abbrev n_BodyReader_take : List Str := ["self", "size"]
abbrev p_BodyReader_take : List Str := ["self", "size"]
abbrev s_BodyReader_text : Stmt := inClass (topS 101) 3
abbrev n_BodyReader_text : List Str := ["self", "most", "byte"]
abbrev p_BodyReader_text : List Str := ["self", "most"]
abbrev s_BodyReader_word : Stmt := inClass (topS 101) 4
abbrev n_BodyReader_word : List Str := ["self", "text"]
abbrev p_BodyReader_word : List Str := ["self"]
abbrev s_BodyReader_close : Stmt := inClass (topS 101) 5
abbrev n_BodyReader_close : List Str := ["self"]
abbrev p_BodyReader_close : List Str := ["self"]
abbrev s_LeafReader_init : Stmt := inClass (topS 129) 0
abbrev n_LeafReader_init : List Str := ["self"]
abbrev p_LeafReader_init : List Str := ["self"]
abbrev s_LeafReader_extend : Stmt := inClass (topS 129) 1
abbrev n_LeafReader_extend : List Str := ["self", "part"]
abbrev p_LeafReader_extend : List Str := ["self", "part"]
abbrev s_LeafReader_next_leaf : Stmt := inClass (topS 129) 3
abbrev n_LeafReader_next_leaf : List Str := ["self", "leaf"]
abbrev p_LeafReader_next_leaf : List Str := ["self"]
abbrev s_LeafReader_finish : Stmt := inClass (topS 129) 4
abbrev n_LeafReader_finish : List Str := ["self"]
abbrev p_LeafReader_finish : List Str := ["self"]
abbrev s_LeafReader_check_leaf : Stmt := inClass (topS 129) 5
abbrev n_LeafReader_check_leaf : List Str := ["self", "leaf", "kind", "stamp", "number", "track", "ordinal", "time", "span", "key", "body"]
abbrev p_LeafReader_check_leaf : List Str := ["self", "leaf"]
abbrev s_LeafReader_is_in_order : Stmt := inClass (topS 129) 6
abbrev n_LeafReader_is_in_order : List Str := ["self", "kind"]
abbrev p_LeafReader_is_in_order : List Str := ["self", "kind"]
abbrev s_LeafReader_check_body : Stmt := inClass (topS 129) 7
abbrev n_LeafReader_check_body : List Str := ["self", "kind", "body", "_", "count", "total"]
abbrev p_LeafReader_check_body : List Str := ["self", "kind", "body"]
abbrev s_LeafReader_check_unit : Stmt := inClass (topS 129) 8
abbrev n_LeafReader_check_unit : List Str := ["self", "leaf", "_", "track", "ordinal", "time", "span", "key", "leaves"]
abbrev p_LeafReader_check_unit : List Str := ["self", "leaf"]
abbrev s_LeafReader_check_entries : Stmt := inClass (topS 129) 9
abbrev n_LeafReader_check_entries : List Str := ["self", "before", "track", "time", "offset"]
abbrev p_LeafReader_check_entries : List Str := ["self"]
abbrev s_LeafReader_check_end : Stmt := inClass (topS 129) 10
abbrev n_LeafReader_check_end : List Str := ["self", "count", "total", "k"]
abbrev p_LeafReader_check_end : List Str := ["self", "count", "total"]
abbrev s_LeafWriter_init : Stmt := inClass (topS 139) 0
abbrev n_LeafWriter_init : List Str := ["self", "stamp"]
abbrev p_LeafWriter_init : List Str := ["self", "stamp"]
abbrev s_LeafWriter_add : Stmt := inClass (topS 139) 1
abbrev n_LeafWriter_add : List Str := ["self", "kind", "track", "ordinal", "time", "span", "key", "body", "leaf"]
abbrev p_LeafWriter_add : List Str := ["self", "kind", "track", "ordinal", "time", "span", "key", "body"]
abbrev s_LeafWriter_add_plain : Stmt := inClass (topS 139) 2
abbrev n_LeafWriter_add_plain : List Str := ["self", "kind", "body"]
abbrev p_LeafWriter_add_plain : List Str := ["self", "kind", "body"]
abbrev s_Reader_init : Stmt := inClass (topS 161) 0
abbrev n_Reader_init : List Str := ["self"]
abbrev p_Reader_init : List Str := ["self"]
abbrev s_Reader_feed : Stmt := inClass (topS 161) 1
abbrev n_Reader_feed : List Str := ["self", "part", "found", "pair"]
abbrev p_Reader_feed : List Str := ["self", "part"]
abbrev s_Reader__later_unit : Stmt := inClass (topS 161) 2
abbrev n_Reader__later_unit : List Str := ["self"]
abbrev p_Reader__later_unit : List Str := ["self"]
abbrev s_Reader__next_unit : Stmt := inClass (topS 161) 3
abbrev n_Reader__next_unit : List Str := ["self", "leaf", "_", "number", "track", "time", "span", "key", "body", "units", "before", "content"]
abbrev p_Reader__next_unit : List Str := ["self"]
abbrev s_Reader_close : Stmt := inClass (topS 161) 4
abbrev n_Reader_close : List Str := ["self", "ticks", "skip", "rows", "tracks", "k", "name", "kind", "_"]
abbrev p_Reader_close : List Str := ["self"]
/-! ### the defs as the head finds them -/
def fdOf (K : PySem.W.Frag) (p : Str × Option Str) : FuncData := match K.lookup (He.fAd K p) with
  | some ⟨_, _, .func fd, _⟩ => fd
  | _ => default
abbrev fA (K : PySem.W.Frag) (x : Str) : Addr := He.fAd K (x, none)
abbrev fD (K : PySem.W.Frag) (x : Str) : FuncData := fdOf K (x, none)
abbrev mA (K : PySem.W.Frag) (c x : Str) : Addr := He.fAd K (c, some x)
abbrev mD (K : PySem.W.Frag) (c x : Str) : FuncData := fdOf K (c, some x)
abbrev cA (K : PySem.W.Frag) (c : Str) : Addr := He.ga K c
def d_by_track : He.DefD := ⟨("by_track", none), "by_track", "by_track", defArgs s_by_track, defBody s_by_track, defScope s_by_track, [], []⟩
def d_moved : He.DefD := ⟨("moved", none), "moved", "moved", defArgs s_moved, defBody s_moved, defScope s_moved, [], []⟩
def d_end_of_units : He.DefD := ⟨("end_of_units", none), "end_of_units", "end_of_units", defArgs s_end_of_units, defBody s_end_of_units, defScope s_end_of_units, [], []⟩
def d_alike : He.DefD := ⟨("alike", none), "alike", "alike", defArgs s_alike, defBody s_alike, defScope s_alike, [], []⟩
def d_change : He.DefD := ⟨("change", none), "change", "change", defArgs s_change, defBody s_change, defScope s_change, [], []⟩
def d_changed : He.DefD := ⟨("changed", none), "changed", "changed", defArgs s_changed, defBody s_changed, defScope s_changed, [], []⟩
def d_is_line : He.DefD := ⟨("is_line", none), "is_line", "is_line", defArgs s_is_line, defBody s_is_line, defScope s_is_line, [], []⟩
def d_is_word : He.DefD := ⟨("is_word", none), "is_word", "is_word", defArgs s_is_word, defBody s_is_word, defScope s_is_word, [], []⟩
def d_is_row : He.DefD := ⟨("is_row", none), "is_row", "is_row", defArgs s_is_row, defBody s_is_row, defScope s_is_row, [], []⟩
def d_are_units : He.DefD := ⟨("are_units", none), "are_units", "are_units", defArgs s_are_units, defBody s_are_units, defScope s_are_units, [], []⟩
def d_step_size : He.DefD := ⟨("step_size", none), "step_size", "step_size", defArgs s_step_size, defBody s_step_size, defScope s_step_size, [], []⟩
def d_are_tags : He.DefD := ⟨("are_tags", none), "are_tags", "are_tags", defArgs s_are_tags, defBody s_are_tags, defScope s_are_tags, [], []⟩
def d_is_presentation : He.DefD := ⟨("is_presentation", none), "is_presentation", "is_presentation", defArgs s_is_presentation, defBody s_is_presentation, defScope s_is_presentation, [], []⟩
def d_end_of : He.DefD := ⟨("end_of", none), "end_of", "end_of", defArgs s_end_of, defBody s_end_of, defScope s_end_of, [], []⟩
def d_put_steps : He.DefD := ⟨("put_steps", none), "put_steps", "put_steps", defArgs s_put_steps, defBody s_put_steps, defScope s_put_steps, [], []⟩
def d_get_steps : He.DefD := ⟨("get_steps", none), "get_steps", "get_steps", defArgs s_get_steps, defBody s_get_steps, defScope s_get_steps, [], []⟩
def d_checksum : He.DefD := ⟨("checksum", none), "checksum", "checksum", defArgs s_checksum, defBody s_checksum, defScope s_checksum, [], []⟩
def d_four_bytes : He.DefD := ⟨("four_bytes", none), "four_bytes", "four_bytes", defArgs s_four_bytes, defBody s_four_bytes, defScope s_four_bytes, [], []⟩
def d_number_of : He.DefD := ⟨("number_of", none), "number_of", "number_of", defArgs s_number_of, defBody s_number_of, defScope s_number_of, [], []⟩
def d_char_of : He.DefD := ⟨("char_of", none), "char_of", "char_of", defArgs s_char_of, defBody s_char_of, defScope s_char_of, [], []⟩
def d_bytes_of : He.DefD := ⟨("bytes_of", none), "bytes_of", "bytes_of", defArgs s_bytes_of, defBody s_bytes_of, defScope s_bytes_of, [], []⟩
def d_text_bytes : He.DefD := ⟨("text_bytes", none), "text_bytes", "text_bytes", defArgs s_text_bytes, defBody s_text_bytes, defScope s_text_bytes, [], []⟩
def d_head_of_rows : He.DefD := ⟨("head_of_rows", none), "head_of_rows", "head_of_rows", defArgs s_head_of_rows, defBody s_head_of_rows, defScope s_head_of_rows, [], []⟩
def d_tags_body : He.DefD := ⟨("tags_body", none), "tags_body", "tags_body", defArgs s_tags_body, defBody s_tags_body, defScope s_tags_body, [], []⟩
def d_index_body : He.DefD := ⟨("index_body", none), "index_body", "index_body", defArgs s_index_body, defBody s_index_body, defScope s_index_body, [], []⟩
def d_end_body : He.DefD := ⟨("end_body", none), "end_body", "end_body", defArgs s_end_body, defBody s_end_body, defScope s_end_body, [], []⟩
def d_unit_body : He.DefD := ⟨("unit_body", none), "unit_body", "unit_body", defArgs s_unit_body, defBody s_unit_body, defScope s_unit_body, [], []⟩
def d_read_head : He.DefD := ⟨("read_head", none), "read_head", "read_head", defArgs s_read_head, defBody s_read_head, defScope s_read_head, [], []⟩
def d_read_tags : He.DefD := ⟨("read_tags", none), "read_tags", "read_tags", defArgs s_read_tags, defBody s_read_tags, defScope s_read_tags, [], []⟩
def d_read_index : He.DefD := ⟨("read_index", none), "read_index", "read_index", defArgs s_read_index, defBody s_read_index, defScope s_read_index, [], []⟩
def d_read_end : He.DefD := ⟨("read_end", none), "read_end", "read_end", defArgs s_read_end, defBody s_read_end, defScope s_read_end, [], []⟩
def d_read_content : He.DefD := ⟨("read_content", none), "read_content", "read_content", defArgs s_read_content, defBody s_read_content, defScope s_read_content, [], []⟩
def d_write_leaf : He.DefD := ⟨("write_leaf", none), "write_leaf", "write_leaf", defArgs s_write_leaf, defBody s_write_leaf, defScope s_write_leaf, [], []⟩
def d_small_byte : He.DefD := ⟨("small_byte", none), "small_byte", "small_byte", defArgs s_small_byte, defBody s_small_byte, defScope s_small_byte, [], []⟩
def d_word_at : He.DefD := ⟨("word_at", none), "word_at", "word_at", defArgs s_word_at, defBody s_word_at, defScope s_word_at, [], []⟩
def d_steps_at : He.DefD := ⟨("steps_at", none), "steps_at", "steps_at", defArgs s_steps_at, defBody s_steps_at, defScope s_steps_at, [], []⟩
def d_read_leaf : He.DefD := ⟨("read_leaf", none), "read_leaf", "read_leaf", defArgs s_read_leaf, defBody s_read_leaf, defScope s_read_leaf, [], []⟩
def d_stuff : He.DefD := ⟨("stuff", none), "stuff", "stuff", defArgs s_stuff, defBody s_stuff, defScope s_stuff, [], []⟩
def d_unstuff : He.DefD := ⟨("unstuff", none), "unstuff", "unstuff", defArgs s_unstuff, defBody s_unstuff, defScope s_unstuff, [], []⟩
def d_unstuffed : He.DefD := ⟨("unstuffed", none), "unstuffed", "unstuffed", defArgs s_unstuffed, defBody s_unstuffed, defScope s_unstuffed, [], []⟩
def d_leaf_of : He.DefD := ⟨("leaf_of", none), "leaf_of", "leaf_of", defArgs s_leaf_of, defBody s_leaf_of, defScope s_leaf_of, [], []⟩
def d_checked_leaves : He.DefD := ⟨("checked_leaves", none), "checked_leaves", "checked_leaves", defArgs s_checked_leaves, defBody s_checked_leaves, defScope s_checked_leaves, [], []⟩
def d_last_key : He.DefD := ⟨("last_key", none), "last_key", "last_key", defArgs s_last_key, defBody s_last_key, defScope s_last_key, [], []⟩
def d_greedy : He.DefD := ⟨("greedy", none), "greedy", "greedy", defArgs s_greedy, defBody s_greedy, defScope s_greedy, [], []⟩
def d_greedy_index : He.DefD := ⟨("greedy_index", none), "greedy_index", "greedy_index", defArgs s_greedy_index, defBody s_greedy_index, defScope s_greedy_index, [], []⟩
def d_best_index : He.DefD := ⟨("best_index", none), "best_index", "best_index", defArgs s_best_index, defBody s_best_index, defScope s_best_index, [], []⟩
def d_write_leaves : He.DefD := ⟨("write_leaves", none), "write_leaves", "write_leaves", defArgs s_write_leaves, defBody s_write_leaves, defScope s_write_leaves, [], []⟩
def d_in_times : He.DefD := ⟨("in_times", none), "in_times", "in_times", defArgs s_in_times, defBody s_in_times, defScope s_in_times, [], []⟩
def d_written : He.DefD := ⟨("written", none), "written", "written", defArgs s_written, defBody s_written, defScope s_written, [], []⟩
def d_file_from : He.DefD := ⟨("file_from", none), "file_from", "file_from", defArgs s_file_from, defBody s_file_from, defScope s_file_from, [], []⟩
def d_with_bodies : He.DefD := ⟨("with_bodies", none), "with_bodies", "with_bodies", defArgs s_with_bodies, defBody s_with_bodies, defScope s_with_bodies, [], []⟩
def d_write : He.DefD := ⟨("write", none), "write", "write", defArgs s_write, defBody s_write, defScope s_write, [.int 100], []⟩
def d_check_alike : He.DefD := ⟨("check_alike", none), "check_alike", "check_alike", defArgs s_check_alike, defBody s_check_alike, defScope s_check_alike, [], []⟩
def d_check_length : He.DefD := ⟨("check_length", none), "check_length", "check_length", defArgs s_check_length, defBody s_check_length, defScope s_check_length, [], []⟩
def d_joined_tags : He.DefD := ⟨("joined_tags", none), "joined_tags", "joined_tags", defArgs s_joined_tags, defBody s_joined_tags, defScope s_joined_tags, [], []⟩
def d_join : He.DefD := ⟨("join", none), "join", "join", defArgs s_join, defBody s_join, defScope s_join, [], []⟩
def d_taken : He.DefD := ⟨("taken", none), "taken", "taken", defArgs s_taken, defBody s_taken, defScope s_taken, [], []⟩
def d_cut : He.DefD := ⟨("cut", none), "cut", "cut", defArgs s_cut, defBody s_cut, defScope s_cut, [], []⟩
def d_shown : He.DefD := ⟨("shown", none), "shown", "shown", defArgs s_shown, defBody s_shown, defScope s_shown, [.non], []⟩
def d_whole_show : He.DefD := ⟨("whole_show", none), "whole_show", "whole_show", defArgs s_whole_show, defBody s_whole_show, defScope s_whole_show, [], []⟩
def d_copied : He.DefD := ⟨("copied", none), "copied", "copied", defArgs s_copied, defBody s_copied, defScope s_copied, [], []⟩
def d_read : He.DefD := ⟨("read", none), "read", "read", defArgs s_read, defBody s_read, defScope s_read, [], []⟩
def d_lw_draws : He.DefD := ⟨("_law_draws", none), "_law_draws", "_law_draws", defArgs s_lw_draws, defBody s_lw_draws, defScope s_lw_draws, [], []⟩
def d_lw_at : He.DefD := ⟨("_law_at", none), "_law_at", "_law_at", defArgs s_lw_at, defBody s_lw_at, defScope s_lw_at, [], []⟩
def d_lw_mix : He.DefD := ⟨("_law_mix", none), "_law_mix", "_law_mix", defArgs s_lw_mix, defBody s_lw_mix, defScope s_lw_mix, [], []⟩
def d_lw_content : He.DefD := ⟨("_law_content", none), "_law_content", "_law_content", defArgs s_lw_content, defBody s_lw_content, defScope s_lw_content, [], []⟩
def d_lw_units : He.DefD := ⟨("_law_units", none), "_law_units", "_law_units", defArgs s_lw_units, defBody s_lw_units, defScope s_lw_units, [], []⟩
def d_lw_tags : He.DefD := ⟨("_law_tags", none), "_law_tags", "_law_tags", defArgs s_lw_tags, defBody s_lw_tags, defScope s_lw_tags, [], []⟩
def d_lw_presentation : He.DefD := ⟨("_law_presentation", none), "_law_presentation", "_law_presentation", defArgs s_lw_presentation, defBody s_lw_presentation, defScope s_lw_presentation, [], []⟩
def d_law : He.DefD := ⟨("law", none), "law", "law", defArgs s_law, defBody s_law, defScope s_law, [], []⟩
def d_BodyReader_init : He.DefD := ⟨("BodyReader", some "__init__"), "__init__", "BodyReader.__init__", defArgs s_BodyReader_init, defBody s_BodyReader_init, defScope s_BodyReader_init, [], []⟩
def d_BodyReader_number : He.DefD := ⟨("BodyReader", some "number"), "number", "BodyReader.number", defArgs s_BodyReader_number, defBody s_BodyReader_number, defScope s_BodyReader_number, [], []⟩
def d_BodyReader_take : He.DefD := ⟨("BodyReader", some "take"), "take", "BodyReader.take", defArgs s_BodyReader_take, defBody s_BodyReader_take, defScope s_BodyReader_take, [], []⟩
def d_BodyReader_text : He.DefD := ⟨("BodyReader", some "text"), "text", "BodyReader.text", defArgs s_BodyReader_text, defBody s_BodyReader_text, defScope s_BodyReader_text, [], []⟩
def d_BodyReader_word : He.DefD := ⟨("BodyReader", some "word"), "word", "BodyReader.word", defArgs s_BodyReader_word, defBody s_BodyReader_word, defScope s_BodyReader_word, [], []⟩
def d_BodyReader_close : He.DefD := ⟨("BodyReader", some "close"), "close", "BodyReader.close", defArgs s_BodyReader_close, defBody s_BodyReader_close, defScope s_BodyReader_close, [], []⟩
def d_LeafReader_init : He.DefD := ⟨("LeafReader", some "__init__"), "__init__", "LeafReader.__init__", defArgs s_LeafReader_init, defBody s_LeafReader_init, defScope s_LeafReader_init, [], []⟩
def d_LeafReader_extend : He.DefD := ⟨("LeafReader", some "extend"), "extend", "LeafReader.extend", defArgs s_LeafReader_extend, defBody s_LeafReader_extend, defScope s_LeafReader_extend, [], []⟩
def d_LeafReader_next_leaf : He.DefD := ⟨("LeafReader", some "next_leaf"), "next_leaf", "LeafReader.next_leaf", defArgs s_LeafReader_next_leaf, defBody s_LeafReader_next_leaf, defScope s_LeafReader_next_leaf, [], []⟩
def d_LeafReader_finish : He.DefD := ⟨("LeafReader", some "finish"), "finish", "LeafReader.finish", defArgs s_LeafReader_finish, defBody s_LeafReader_finish, defScope s_LeafReader_finish, [], []⟩
def d_LeafReader_check_leaf : He.DefD := ⟨("LeafReader", some "check_leaf"), "check_leaf", "LeafReader.check_leaf", defArgs s_LeafReader_check_leaf, defBody s_LeafReader_check_leaf, defScope s_LeafReader_check_leaf, [], []⟩
def d_LeafReader_is_in_order : He.DefD := ⟨("LeafReader", some "is_in_order"), "is_in_order", "LeafReader.is_in_order", defArgs s_LeafReader_is_in_order, defBody s_LeafReader_is_in_order, defScope s_LeafReader_is_in_order, [], []⟩
def d_LeafReader_check_body : He.DefD := ⟨("LeafReader", some "check_body"), "check_body", "LeafReader.check_body", defArgs s_LeafReader_check_body, defBody s_LeafReader_check_body, defScope s_LeafReader_check_body, [], []⟩
def d_LeafReader_check_unit : He.DefD := ⟨("LeafReader", some "check_unit"), "check_unit", "LeafReader.check_unit", defArgs s_LeafReader_check_unit, defBody s_LeafReader_check_unit, defScope s_LeafReader_check_unit, [], []⟩
def d_LeafReader_check_entries : He.DefD := ⟨("LeafReader", some "check_entries"), "check_entries", "LeafReader.check_entries", defArgs s_LeafReader_check_entries, defBody s_LeafReader_check_entries, defScope s_LeafReader_check_entries, [], []⟩
def d_LeafReader_check_end : He.DefD := ⟨("LeafReader", some "check_end"), "check_end", "LeafReader.check_end", defArgs s_LeafReader_check_end, defBody s_LeafReader_check_end, defScope s_LeafReader_check_end, [], []⟩
def d_LeafWriter_init : He.DefD := ⟨("LeafWriter", some "__init__"), "__init__", "LeafWriter.__init__", defArgs s_LeafWriter_init, defBody s_LeafWriter_init, defScope s_LeafWriter_init, [], []⟩
def d_LeafWriter_add : He.DefD := ⟨("LeafWriter", some "add"), "add", "LeafWriter.add", defArgs s_LeafWriter_add, defBody s_LeafWriter_add, defScope s_LeafWriter_add, [], []⟩
def d_LeafWriter_add_plain : He.DefD := ⟨("LeafWriter", some "add_plain"), "add_plain", "LeafWriter.add_plain", defArgs s_LeafWriter_add_plain, defBody s_LeafWriter_add_plain, defScope s_LeafWriter_add_plain, [], []⟩
def d_Reader_init : He.DefD := ⟨("Reader", some "__init__"), "__init__", "Reader.__init__", defArgs s_Reader_init, defBody s_Reader_init, defScope s_Reader_init, [], []⟩
def d_Reader_feed : He.DefD := ⟨("Reader", some "feed"), "feed", "Reader.feed", defArgs s_Reader_feed, defBody s_Reader_feed, defScope s_Reader_feed, [], []⟩
def d_Reader__later_unit : He.DefD := ⟨("Reader", some "_later_unit"), "_later_unit", "Reader._later_unit", defArgs s_Reader__later_unit, defBody s_Reader__later_unit, defScope s_Reader__later_unit, [], []⟩
def d_Reader__next_unit : He.DefD := ⟨("Reader", some "_next_unit"), "_next_unit", "Reader._next_unit", defArgs s_Reader__next_unit, defBody s_Reader__next_unit, defScope s_Reader__next_unit, [], []⟩
def d_Reader_close : He.DefD := ⟨("Reader", some "close"), "close", "Reader.close", defArgs s_Reader_close, defBody s_Reader_close, defScope s_Reader_close, [], []⟩
def fn : List He.DefD := ([d_by_track, d_moved, d_end_of_units, d_alike, d_change, d_changed, d_is_line, d_is_word, d_is_row, d_are_units] : List He.DefD) ++ ([d_step_size, d_are_tags, d_is_presentation, d_end_of, d_put_steps, d_get_steps, d_checksum, d_four_bytes, d_number_of, d_char_of] : List He.DefD) ++ ([d_bytes_of, d_text_bytes, d_head_of_rows, d_tags_body, d_index_body, d_end_body, d_unit_body, d_read_head, d_read_tags, d_read_index] : List He.DefD) ++ ([d_read_end, d_read_content, d_write_leaf, d_small_byte, d_word_at, d_steps_at, d_read_leaf, d_stuff, d_unstuff, d_unstuffed] : List He.DefD) ++ ([d_leaf_of, d_checked_leaves, d_last_key, d_greedy, d_greedy_index, d_best_index, d_write_leaves, d_in_times, d_written, d_file_from] : List He.DefD) ++ ([d_with_bodies, d_write, d_check_alike, d_check_length, d_joined_tags, d_join, d_taken, d_cut, d_shown, d_whole_show] : List He.DefD) ++ ([d_copied, d_read, d_lw_draws, d_lw_at, d_lw_mix, d_lw_content, d_lw_units, d_lw_tags, d_lw_presentation, d_law] : List He.DefD) ++ ([d_BodyReader_init, d_BodyReader_number, d_BodyReader_take, d_BodyReader_text, d_BodyReader_word, d_BodyReader_close, d_LeafReader_init, d_LeafReader_extend, d_LeafReader_next_leaf, d_LeafReader_finish] : List He.DefD) ++ ([d_LeafReader_check_leaf, d_LeafReader_is_in_order, d_LeafReader_check_body, d_LeafReader_check_unit, d_LeafReader_check_entries, d_LeafReader_check_end, d_LeafWriter_init, d_LeafWriter_add, d_LeafWriter_add_plain, d_Reader_init] : List He.DefD) ++ ([d_Reader_feed, d_Reader__later_unit, d_Reader__next_unit, d_Reader_close] : List He.DefD)
def fa : List He.Fa := ([.glo "by_track", .glo "moved", .glo "end_of_units", .glo "alike", .glo "change", .glo "changed", .glo "is_line", .glo "is_word", .glo "is_row", .glo "are_units"] : List He.Fa) ++ ([.glo "step_size", .glo "are_tags", .glo "is_presentation", .glo "end_of", .glo "put_steps", .glo "get_steps", .glo "checksum", .glo "four_bytes", .glo "number_of", .glo "char_of"] : List He.Fa) ++ ([.glo "bytes_of", .glo "text_bytes", .glo "head_of_rows", .glo "tags_body", .glo "index_body", .glo "end_body", .glo "unit_body", .glo "read_head", .glo "read_tags", .glo "read_index"] : List He.Fa) ++ ([.glo "read_end", .glo "read_content", .glo "write_leaf", .glo "small_byte", .glo "word_at", .glo "steps_at", .glo "read_leaf", .glo "stuff", .glo "unstuff", .glo "unstuffed"] : List He.Fa) ++ ([.glo "leaf_of", .glo "checked_leaves", .glo "last_key", .glo "greedy", .glo "greedy_index", .glo "best_index", .glo "write_leaves", .glo "in_times", .glo "written", .glo "file_from"] : List He.Fa) ++ ([.glo "with_bodies", .glo "write", .glo "check_alike", .glo "check_length", .glo "joined_tags", .glo "join", .glo "taken", .glo "cut", .glo "shown", .glo "whole_show"] : List He.Fa) ++ ([.glo "copied", .glo "read", .glo "_law_draws", .glo "_law_at", .glo "_law_mix", .glo "_law_content", .glo "_law_units", .glo "_law_tags", .glo "_law_presentation", .glo "law"] : List He.Fa) ++ ([.glo "BodyReader", .cls "BodyReader", .mkr "BodyReader", .glo "LeafReader", .cls "LeafReader", .mkr "LeafReader", .glo "LeafWriter", .cls "LeafWriter", .mkr "LeafWriter", .glo "Reader"] : List He.Fa) ++ ([.cls "Reader", .mkr "Reader", .noat "BodyReader" "body", .noat "BodyReader" "at", .noat "LeafReader" "data", .noat "LeafReader" "at", .noat "LeafReader" "scan", .noat "LeafReader" "count", .noat "LeafReader" "stamp", .noat "LeafReader" "last"] : List He.Fa) ++ ([.noat "LeafReader" "head", .noat "LeafReader" "tags", .noat "LeafReader" "entries", .noat "LeafReader" "units", .noat "LeafReader" "places", .noat "LeafWriter" "stamp", .noat "LeafWriter" "leaves", .noat "LeafWriter" "data", .noat "Reader" "_leaves", .noat "Reader" "_units"] : List He.Fa) ++ ([.noat "Reader" "_given", .noat "Reader" "_bad", .meth "BodyReader" "number", .meth "BodyReader" "take", .meth "BodyReader" "text", .meth "BodyReader" "word", .meth "BodyReader" "close", .meth "LeafReader" "extend", .meth "LeafReader" "next_leaf", .meth "LeafReader" "finish"] : List He.Fa) ++ ([.meth "LeafReader" "check_leaf", .meth "LeafReader" "is_in_order", .meth "LeafReader" "check_body", .meth "LeafReader" "check_unit", .meth "LeafReader" "check_entries", .meth "LeafReader" "check_end", .meth "LeafWriter" "add", .meth "LeafWriter" "add_plain", .meth "Reader" "feed", .meth "Reader" "_later_unit"] : List He.Fa) ++ ([.meth "Reader" "_next_unit", .meth "Reader" "close", .free "len", .free "max", .free "min", .free "range", .free "int", .free "ord", .free "sorted", .free "list"] : List He.Fa) ++ ([.free "tuple", .free "all", .free "abs", .int "TRACK" 3, .int "ORDINAL" 4, .int "TIME" 5, .int "SPAN" 6, .int "KEY" 7, .int "BODY" 8, .int "MOST_TICKS" 90000] : List He.Fa) ++ ([.int "TIME_BOUND" 1099511627776, .int "SPAN_BOUND" 16777216, .int "MOST_TRACKS" 15, .int "MOST_UNITS_presentation" 300, .int "MOST_CONTENT" 200, .int "MOST_NAME" 32, .int "MOST_WORD" 16, .int "MOST_VALUE" 100, .int "MOST_BODY_presentation" 1024, .int "BOUND" 1099511627776] : List He.Fa) ++ ([.int "MOST_BYTES" 6, .int "FULL" 4294967295, .int "POLYNOMIAL" 3988292384, .int "VERSION" 1, .int "MOST_ENTRIES" 100, .int "MOST_LEAVES" 4294967295, .int "HEAD" 0, .int "TAGS" 1, .int "UNIT" 2, .int "INDEX" 3] : List He.Fa) ++ ([.int "END" 4, .int "WORD" 4294967295, .int "MOST_BODY_leaves" 1024, .int "FULL_BLOCK" 255, .int "TIME_LIMIT" 1099511627776, .int "MOST_UNITS_joining" 300, .int "MOST_BODY_joining" 1024, .str "LETTERS" "spool", .str "CHARS" " !\"#$&'()*+,-./0123456789:;<=>?@ABCDEFGHIJKLMNOPQRSTUVWXYZ[\\]^_`abcdefghijklmnopqrstuvwxyz{|}~", .glo "MOST"] : List He.Fa)
end Sp
namespace Sp
open PySem PySem.Spec PyProof.Rows L2
theorem fdOf_of {K : PySem.W.Frag} {p : Str × Option Str} {x q : Str} {a : Arguments} {b : List Stmt} {sc : Scope} {dv : List V} {kw : List (Str × V)} {fd : FuncData} (F : FunD K x q a b sc dv kw (He.fAd K p) fd) : fdOf K p = fd := by
  obtain ⟨oc, od, dV, kV, doc, pm, an, cdv, ct, osl, e, lk, _⟩ := F.ex
  unfold fdOf
  rw [lk]
structure GFn (K : PySem.W.Frag) (mg : Str → Option Value) (x : Str) (st : Stmt) (ps : List Str) (dv : List V) : Prop where
  F : FunD K x x (defArgs st) (defBody st) (defScope st) dv [] (fA K x) (fD K x)
  g : mg x = some (.ref (fA K x))
  b : Binds K (fD K x) ps []
theorem GFn.kp {K : PySem.W.Frag} {mg : Str → Option Value} {x : Str} {st : Stmt} {ps : List Str} {dv : List V} (G : GFn K mg x st ps dv) : PySem.W.keepIn K (.ref (fA K x)) = true := G.F.kp
structure MFn (K : PySem.W.Frag) (c x : Str) (q : Str) (st : Stmt) (ps : List Str) : Prop where
  F : FunD K x q (defArgs st) (defBody st) (defScope st) [] [] (mA K c x) (mD K c x)
  b : Binds K (mD K c x) ps []
theorem gfn_of {K : PySem.W.Frag} {mg : Str → Option Value} {h : Heap} {x : Str} {st : Stmt} {ps : List Str} (X : K.In h) (G : h.Ns mainGlobals mg) (e : ∃ fd, FunD K x x (defArgs st) (defBody st) (defScope st) [] [] (fA K x) fd) (c : (He.Fa.glo x).ok K = true)
    (b : ∀ (kV doc pm : Value) (an : Option Addr) (cdv ct : Value) (us : List Value), us.length = ps.length → bindArgs (PySem.W.fnOf x x (defArgs st) (defBody st) (defScope st) .none kV doc pm an cdv ct) ⟨us, []⟩ = pure (ps.zip us)) : GFn K mg x st ps [] := by
  obtain ⟨fd, F⟩ := e
  have q := fdOf_of F
  rw [← q] at F
  exact ⟨F, He.glo_ok X G c, F.bindsN b⟩
theorem mfn_of {K : PySem.W.Frag} {c x q : Str} {st : Stmt} {ps : List Str} (e : ∃ fd, FunD K x q (defArgs st) (defBody st) (defScope st) [] [] (mA K c x) fd)
    (b : ∀ (kV doc pm : Value) (an : Option Addr) (cdv ct : Value) (us : List Value), us.length = ps.length → bindArgs (PySem.W.fnOf x q (defArgs st) (defBody st) (defScope st) .none kV doc pm an cdv ct) ⟨us, []⟩ = pure (ps.zip us)) : MFn K c x q st ps := by
  obtain ⟨fd, F⟩ := e
  have z := fdOf_of F
  rw [← z] at F
  exact ⟨F, F.bindsN b⟩
/-- one more parameter with a default -/
theorem gfn_of1 {K : PySem.W.Frag} {mg : Str → Option Value} {h : Heap} {x : Str} {st : Stmt} {ps : List Str} {d : V} (n : Nat) (hn : n + 1 = ps.length) (X : K.In h) (G : h.Ns mainGlobals mg) (e : ∃ fd, FunD K x x (defArgs st) (defBody st) (defScope st) [d] [] (fA K x) fd) (c : (He.Fa.glo x).ok K = true)
    (b0 : ∀ (T : Addr) (kV doc pm : Value) (an : Option Addr) (cdv ct : Value) (us its : List Value), us.length = n + 1 → its.length = [d].length →
      ∃ k, bindArgs (PySem.W.fnOf x x (defArgs st) (defBody st) (defScope st) (.ref T) kV doc pm an cdv ct) ⟨us, []⟩ = seqItems? (.ref T) >>= k ∧ k (some its.toArray) = pure (ps.zip (us ++ its.drop 1)))
    (b1 : ∀ (T : Addr) (kV doc pm : Value) (an : Option Addr) (cdv ct : Value) (us its : List Value), us.length = n → its.length = [d].length →
      ∃ k, bindArgs (PySem.W.fnOf x x (defArgs st) (defBody st) (defScope st) (.ref T) kV doc pm an cdv ct) ⟨us, []⟩ = seqItems? (.ref T) >>= k ∧ k (some its.toArray) = pure (ps.zip (us ++ its.drop 0))) :
    GFn K mg x st ps [d] ∧ ∃ ds, Vals [d] ds ∧ Binds K (fD K x) ps ds := by
  obtain ⟨fd, F⟩ := e
  have q := fdOf_of F
  rw [← q] at F
  obtain ⟨ds, v0, B0⟩ := F.binds1 (n + 1) 1 (List.cons_ne_nil _ _) (by simpa using hn) b0
  obtain ⟨ds1, v1, B1⟩ := F.binds1 n 0 (List.cons_ne_nil _ _) (by simpa using hn) b1
  have e0 : ds = [] := by
    cases v0
    rfl
  subst e0
  exact ⟨⟨F, He.glo_ok X G c, B0⟩, ds1, v1, B1⟩
def mostV : List He.Dv := [.int 4, .int 4294967295, .int 4294967295, .int 15, .int 16777215, .int 1099511627775, .int 16777215, .int 1]
abbrev IntG (mg : Str → Option Value) (x : Str) (i : Int) : Prop := ∃ t, mg x = some (.int i t)
abbrev StrG (mg : Str → Option Value) (x s : Str) : Prop := ∃ t, mg x = some (.str s t)
structure Facts (K : PySem.W.Frag) (mg : Str → Option Value) : Prop where
  by_track : GFn K mg "by_track" s_by_track p_by_track []
  moved : GFn K mg "moved" s_moved p_moved []
  end_of_units : GFn K mg "end_of_units" s_end_of_units p_end_of_units []
  alike : GFn K mg "alike" s_alike p_alike []
  change : GFn K mg "change" s_change p_change []
  changed : GFn K mg "changed" s_changed p_changed []
  is_line : GFn K mg "is_line" s_is_line p_is_line []
  is_word : GFn K mg "is_word" s_is_word p_is_word []
  is_row : GFn K mg "is_row" s_is_row p_is_row []
  are_units : GFn K mg "are_units" s_are_units p_are_units []
  step_size : GFn K mg "step_size" s_step_size p_step_size []
  are_tags : GFn K mg "are_tags" s_are_tags p_are_tags []
  is_presentation : GFn K mg "is_presentation" s_is_presentation p_is_presentation []
  end_of : GFn K mg "end_of" s_end_of p_end_of []
  put_steps : GFn K mg "put_steps" s_put_steps p_put_steps []
  get_steps : GFn K mg "get_steps" s_get_steps p_get_steps []
  checksum : GFn K mg "checksum" s_checksum p_checksum []
  four_bytes : GFn K mg "four_bytes" s_four_bytes p_four_bytes []
  number_of : GFn K mg "number_of" s_number_of p_number_of []
  char_of : GFn K mg "char_of" s_char_of p_char_of []
  bytes_of : GFn K mg "bytes_of" s_bytes_of p_bytes_of []
  text_bytes : GFn K mg "text_bytes" s_text_bytes p_text_bytes []
  head_of_rows : GFn K mg "head_of_rows" s_head_of_rows p_head_of_rows []
  tags_body : GFn K mg "tags_body" s_tags_body p_tags_body []
  index_body : GFn K mg "index_body" s_index_body p_index_body []
  end_body : GFn K mg "end_body" s_end_body p_end_body []
  unit_body : GFn K mg "unit_body" s_unit_body p_unit_body []
  read_head : GFn K mg "read_head" s_read_head p_read_head []
  read_tags : GFn K mg "read_tags" s_read_tags p_read_tags []
  read_index : GFn K mg "read_index" s_read_index p_read_index []
  read_end : GFn K mg "read_end" s_read_end p_read_end []
  read_content : GFn K mg "read_content" s_read_content p_read_content []
  write_leaf : GFn K mg "write_leaf" s_write_leaf p_write_leaf []
  small_byte : GFn K mg "small_byte" s_small_byte p_small_byte []
  word_at : GFn K mg "word_at" s_word_at p_word_at []
  steps_at : GFn K mg "steps_at" s_steps_at p_steps_at []
  read_leaf : GFn K mg "read_leaf" s_read_leaf p_read_leaf []
  stuff : GFn K mg "stuff" s_stuff p_stuff []
  unstuff : GFn K mg "unstuff" s_unstuff p_unstuff []
  unstuffed : GFn K mg "unstuffed" s_unstuffed p_unstuffed []
  leaf_of : GFn K mg "leaf_of" s_leaf_of p_leaf_of []
  checked_leaves : GFn K mg "checked_leaves" s_checked_leaves p_checked_leaves []
  last_key : GFn K mg "last_key" s_last_key p_last_key []
  greedy : GFn K mg "greedy" s_greedy p_greedy []
  greedy_index : GFn K mg "greedy_index" s_greedy_index p_greedy_index []
  best_index : GFn K mg "best_index" s_best_index p_best_index []
  write_leaves : GFn K mg "write_leaves" s_write_leaves p_write_leaves []
  in_times : GFn K mg "in_times" s_in_times p_in_times []
  written : GFn K mg "written" s_written p_written []
  file_from : GFn K mg "file_from" s_file_from p_file_from []
  with_bodies : GFn K mg "with_bodies" s_with_bodies p_with_bodies []
  write : GFn K mg "write" s_write p_write [V.int 100]
  write_b1 : ∃ ds, Vals [V.int 100] ds ∧ Binds K (fD K "write") p_write ds
  check_alike : GFn K mg "check_alike" s_check_alike p_check_alike []
  check_length : GFn K mg "check_length" s_check_length p_check_length []
  joined_tags : GFn K mg "joined_tags" s_joined_tags p_joined_tags []
  join : GFn K mg "join" s_join p_join []
  taken : GFn K mg "taken" s_taken p_taken []
  cut : GFn K mg "cut" s_cut p_cut []
  shown : GFn K mg "shown" s_shown p_shown [V.non]
  shown_b1 : ∃ ds, Vals [V.non] ds ∧ Binds K (fD K "shown") p_shown ds
  whole_show : GFn K mg "whole_show" s_whole_show p_whole_show []
  copied : GFn K mg "copied" s_copied p_copied []
  read : GFn K mg "read" s_read p_read []
  lw_draws : GFn K mg "_law_draws" s_lw_draws p_lw_draws []
  lw_at : GFn K mg "_law_at" s_lw_at p_lw_at []
  lw_mix : GFn K mg "_law_mix" s_lw_mix p_lw_mix []
  lw_content : GFn K mg "_law_content" s_lw_content p_lw_content []
  lw_units : GFn K mg "_law_units" s_lw_units p_lw_units []
  lw_tags : GFn K mg "_law_tags" s_lw_tags p_lw_tags []
  lw_presentation : GFn K mg "_law_presentation" s_lw_presentation p_lw_presentation []
  law : GFn K mg "law" s_law p_law []
  BodyReader_init : MFn K "BodyReader" "__init__" "BodyReader.__init__" s_BodyReader_init p_BodyReader_init
  BodyReader_number : MFn K "BodyReader" "number" "BodyReader.number" s_BodyReader_number p_BodyReader_number
  m_BodyReader_number : Meth K (cA K "BodyReader") "number" (mA K "BodyReader" "number")
  BodyReader_take : MFn K "BodyReader" "take" "BodyReader.take" s_BodyReader_take p_BodyReader_take
  m_BodyReader_take : Meth K (cA K "BodyReader") "take" (mA K "BodyReader" "take")
  BodyReader_text : MFn K "BodyReader" "text" "BodyReader.text" s_BodyReader_text p_BodyReader_text
  m_BodyReader_text : Meth K (cA K "BodyReader") "text" (mA K "BodyReader" "text")
  BodyReader_word : MFn K "BodyReader" "word" "BodyReader.word" s_BodyReader_word p_BodyReader_word
  m_BodyReader_word : Meth K (cA K "BodyReader") "word" (mA K "BodyReader" "word")
  BodyReader_close : MFn K "BodyReader" "close" "BodyReader.close" s_BodyReader_close p_BodyReader_close
  m_BodyReader_close : Meth K (cA K "BodyReader") "close" (mA K "BodyReader" "close")
  LeafReader_init : MFn K "LeafReader" "__init__" "LeafReader.__init__" s_LeafReader_init p_LeafReader_init
  LeafReader_extend : MFn K "LeafReader" "extend" "LeafReader.extend" s_LeafReader_extend p_LeafReader_extend
  m_LeafReader_extend : Meth K (cA K "LeafReader") "extend" (mA K "LeafReader" "extend")
  LeafReader_next_leaf : MFn K "LeafReader" "next_leaf" "LeafReader.next_leaf" s_LeafReader_next_leaf p_LeafReader_next_leaf
  m_LeafReader_next_leaf : Meth K (cA K "LeafReader") "next_leaf" (mA K "LeafReader" "next_leaf")
  LeafReader_finish : MFn K "LeafReader" "finish" "LeafReader.finish" s_LeafReader_finish p_LeafReader_finish
  m_LeafReader_finish : Meth K (cA K "LeafReader") "finish" (mA K "LeafReader" "finish")
  LeafReader_check_leaf : MFn K "LeafReader" "check_leaf" "LeafReader.check_leaf" s_LeafReader_check_leaf p_LeafReader_check_leaf
  m_LeafReader_check_leaf : Meth K (cA K "LeafReader") "check_leaf" (mA K "LeafReader" "check_leaf")
  LeafReader_is_in_order : MFn K "LeafReader" "is_in_order" "LeafReader.is_in_order" s_LeafReader_is_in_order p_LeafReader_is_in_order
  m_LeafReader_is_in_order : Meth K (cA K "LeafReader") "is_in_order" (mA K "LeafReader" "is_in_order")
  LeafReader_check_body : MFn K "LeafReader" "check_body" "LeafReader.check_body" s_LeafReader_check_body p_LeafReader_check_body
  m_LeafReader_check_body : Meth K (cA K "LeafReader") "check_body" (mA K "LeafReader" "check_body")
  LeafReader_check_unit : MFn K "LeafReader" "check_unit" "LeafReader.check_unit" s_LeafReader_check_unit p_LeafReader_check_unit
  m_LeafReader_check_unit : Meth K (cA K "LeafReader") "check_unit" (mA K "LeafReader" "check_unit")
  LeafReader_check_entries : MFn K "LeafReader" "check_entries" "LeafReader.check_entries" s_LeafReader_check_entries p_LeafReader_check_entries
  m_LeafReader_check_entries : Meth K (cA K "LeafReader") "check_entries" (mA K "LeafReader" "check_entries")
  LeafReader_check_end : MFn K "LeafReader" "check_end" "LeafReader.check_end" s_LeafReader_check_end p_LeafReader_check_end
  m_LeafReader_check_end : Meth K (cA K "LeafReader") "check_end" (mA K "LeafReader" "check_end")
  LeafWriter_init : MFn K "LeafWriter" "__init__" "LeafWriter.__init__" s_LeafWriter_init p_LeafWriter_init
  LeafWriter_add : MFn K "LeafWriter" "add" "LeafWriter.add" s_LeafWriter_add p_LeafWriter_add
  m_LeafWriter_add : Meth K (cA K "LeafWriter") "add" (mA K "LeafWriter" "add")
  LeafWriter_add_plain : MFn K "LeafWriter" "add_plain" "LeafWriter.add_plain" s_LeafWriter_add_plain p_LeafWriter_add_plain
  m_LeafWriter_add_plain : Meth K (cA K "LeafWriter") "add_plain" (mA K "LeafWriter" "add_plain")
  Reader_init : MFn K "Reader" "__init__" "Reader.__init__" s_Reader_init p_Reader_init
  Reader_feed : MFn K "Reader" "feed" "Reader.feed" s_Reader_feed p_Reader_feed
  m_Reader_feed : Meth K (cA K "Reader") "feed" (mA K "Reader" "feed")
  Reader__later_unit : MFn K "Reader" "_later_unit" "Reader._later_unit" s_Reader__later_unit p_Reader__later_unit
  m_Reader__later_unit : Meth K (cA K "Reader") "_later_unit" (mA K "Reader" "_later_unit")
  Reader__next_unit : MFn K "Reader" "_next_unit" "Reader._next_unit" s_Reader__next_unit p_Reader__next_unit
  m_Reader__next_unit : Meth K (cA K "Reader") "_next_unit" (mA K "Reader" "_next_unit")
  Reader_close : MFn K "Reader" "close" "Reader.close" s_Reader_close p_Reader_close
  m_Reader_close : Meth K (cA K "Reader") "close" (mA K "Reader" "close")
  g_BodyReader : mg "BodyReader" = some (.ref (cA K "BodyReader"))
  cl_BodyReader : Cls K (cA K "BodyReader")
  mk_BodyReader : Mk K (cA K "BodyReader") (mA K "BodyReader" "__init__")
  na_BodyReader_body : NoAttr K (cA K "BodyReader") "body"
  na_BodyReader_at : NoAttr K (cA K "BodyReader") "at"
  g_LeafReader : mg "LeafReader" = some (.ref (cA K "LeafReader"))
  cl_LeafReader : Cls K (cA K "LeafReader")
  mk_LeafReader : Mk K (cA K "LeafReader") (mA K "LeafReader" "__init__")
  na_LeafReader_data : NoAttr K (cA K "LeafReader") "data"
  na_LeafReader_at : NoAttr K (cA K "LeafReader") "at"
  na_LeafReader_scan : NoAttr K (cA K "LeafReader") "scan"
  na_LeafReader_count : NoAttr K (cA K "LeafReader") "count"
  na_LeafReader_stamp : NoAttr K (cA K "LeafReader") "stamp"
  na_LeafReader_last : NoAttr K (cA K "LeafReader") "last"
  na_LeafReader_head : NoAttr K (cA K "LeafReader") "head"
  na_LeafReader_tags : NoAttr K (cA K "LeafReader") "tags"
  na_LeafReader_entries : NoAttr K (cA K "LeafReader") "entries"
  na_LeafReader_units : NoAttr K (cA K "LeafReader") "units"
  na_LeafReader_places : NoAttr K (cA K "LeafReader") "places"
  g_LeafWriter : mg "LeafWriter" = some (.ref (cA K "LeafWriter"))
  cl_LeafWriter : Cls K (cA K "LeafWriter")
  mk_LeafWriter : Mk K (cA K "LeafWriter") (mA K "LeafWriter" "__init__")
  na_LeafWriter_stamp : NoAttr K (cA K "LeafWriter") "stamp"
  na_LeafWriter_leaves : NoAttr K (cA K "LeafWriter") "leaves"
  na_LeafWriter_data : NoAttr K (cA K "LeafWriter") "data"
  g_Reader : mg "Reader" = some (.ref (cA K "Reader"))
  cl_Reader : Cls K (cA K "Reader")
  mk_Reader : Mk K (cA K "Reader") (mA K "Reader" "__init__")
  na_Reader_leaves : NoAttr K (cA K "Reader") "_leaves"
  na_Reader_units : NoAttr K (cA K "Reader") "_units"
  na_Reader_given : NoAttr K (cA K "Reader") "_given"
  na_Reader_bad : NoAttr K (cA K "Reader") "_bad"
  z_len : mg "len" = none
  z_max : mg "max" = none
  z_min : mg "min" = none
  z_range : mg "range" = none
  z_int : mg "int" = none
  z_ord : mg "ord" = none
  z_sorted : mg "sorted" = none
  z_list : mg "list" = none
  z_tuple : mg "tuple" = none
  z_all : mg "all" = none
  z_abs : mg "abs" = none
  g_TRACK : IntG mg "TRACK" 3
  g_ORDINAL : IntG mg "ORDINAL" 4
  g_TIME : IntG mg "TIME" 5
  g_SPAN : IntG mg "SPAN" 6
  g_KEY : IntG mg "KEY" 7
  g_BODY : IntG mg "BODY" 8
  g_MOST_TICKS : IntG mg "MOST_TICKS" 90000
  g_TIME_BOUND : IntG mg "TIME_BOUND" 1099511627776
  g_SPAN_BOUND : IntG mg "SPAN_BOUND" 16777216
  g_MOST_TRACKS : IntG mg "MOST_TRACKS" 15
  g_MOST_UNITS_presentation : IntG mg "MOST_UNITS_presentation" 300
  g_MOST_CONTENT : IntG mg "MOST_CONTENT" 200
  g_MOST_NAME : IntG mg "MOST_NAME" 32
  g_MOST_WORD : IntG mg "MOST_WORD" 16
  g_MOST_VALUE : IntG mg "MOST_VALUE" 100
  g_MOST_BODY_presentation : IntG mg "MOST_BODY_presentation" 1024
  g_BOUND : IntG mg "BOUND" 1099511627776
  g_MOST_BYTES : IntG mg "MOST_BYTES" 6
  g_FULL : IntG mg "FULL" 4294967295
  g_POLYNOMIAL : IntG mg "POLYNOMIAL" 3988292384
  g_VERSION : IntG mg "VERSION" 1
  g_MOST_ENTRIES : IntG mg "MOST_ENTRIES" 100
  g_MOST_LEAVES : IntG mg "MOST_LEAVES" 4294967295
  g_HEAD : IntG mg "HEAD" 0
  g_TAGS : IntG mg "TAGS" 1
  g_UNIT : IntG mg "UNIT" 2
  g_INDEX : IntG mg "INDEX" 3
  g_END : IntG mg "END" 4
  g_WORD : IntG mg "WORD" 4294967295
  g_MOST_BODY_leaves : IntG mg "MOST_BODY_leaves" 1024
  g_FULL_BLOCK : IntG mg "FULL_BLOCK" 255
  g_TIME_LIMIT : IntG mg "TIME_LIMIT" 1099511627776
  g_MOST_UNITS_joining : IntG mg "MOST_UNITS_joining" 300
  g_MOST_BODY_joining : IntG mg "MOST_BODY_joining" 1024
  g_LETTERS : StrG mg "LETTERS" "spool"
  g_CHARS : StrG mg "CHARS" " !\"#$&'()*+,-./0123456789:;<=>?@ABCDEFGHIJKLMNOPQRSTUVWXYZ[\\]^_`abcdefghijklmnopqrstuvwxyz{|}~"
  g_MOST : mg "MOST" = some (.ref (cA K "MOST"))
  t_MOST : ∀ H : Hp, SqT K H (cA K "MOST") (mostV.map (He.Dv.v K))
set_option maxHeartbeats 4000000 in
theorem facts_of {K : PySem.W.Frag} {mg : Str → Option Value} {h : Heap} (X : K.In h) (G : h.Ns mainGlobals mg) (c : He.SaysD fa fn K) (ht : He.tupB K "MOST" mostV = true) : Facts K mg where
  by_track := gfn_of X G (c.def_ 0 (d := d_by_track) (by kernel_rfl)) (c.fact 0 (f := .glo "by_track") (by kernel_rfl)) (fun _ _ _ _ _ _ us hl => match us, hl with | [_, _], _ => by kernel_rfl)
  moved := gfn_of X G (c.def_ 1 (d := d_moved) (by kernel_rfl)) (c.fact 1 (f := .glo "moved") (by kernel_rfl)) (fun _ _ _ _ _ _ us hl => match us, hl with | [_, _], _ => by kernel_rfl)
  end_of_units := gfn_of X G (c.def_ 2 (d := d_end_of_units) (by kernel_rfl)) (c.fact 2 (f := .glo "end_of_units") (by kernel_rfl)) (fun _ _ _ _ _ _ us hl => match us, hl with | [_], _ => by kernel_rfl)
  alike := gfn_of X G (c.def_ 3 (d := d_alike) (by kernel_rfl)) (c.fact 3 (f := .glo "alike") (by kernel_rfl)) (fun _ _ _ _ _ _ us hl => match us, hl with | [_, _, _], _ => by kernel_rfl)
  change := gfn_of X G (c.def_ 4 (d := d_change) (by kernel_rfl)) (c.fact 4 (f := .glo "change") (by kernel_rfl)) (fun _ _ _ _ _ _ us hl => match us, hl with | [_, _], _ => by kernel_rfl)
  changed := gfn_of X G (c.def_ 5 (d := d_changed) (by kernel_rfl)) (c.fact 5 (f := .glo "changed") (by kernel_rfl)) (fun _ _ _ _ _ _ us hl => match us, hl with | [_, _], _ => by kernel_rfl)
  is_line := gfn_of X G (c.def_ 6 (d := d_is_line) (by kernel_rfl)) (c.fact 6 (f := .glo "is_line") (by kernel_rfl)) (fun _ _ _ _ _ _ us hl => match us, hl with | [_, _], _ => by kernel_rfl)
  is_word := gfn_of X G (c.def_ 7 (d := d_is_word) (by kernel_rfl)) (c.fact 7 (f := .glo "is_word") (by kernel_rfl)) (fun _ _ _ _ _ _ us hl => match us, hl with | [_], _ => by kernel_rfl)
  is_row := gfn_of X G (c.def_ 8 (d := d_is_row) (by kernel_rfl)) (c.fact 8 (f := .glo "is_row") (by kernel_rfl)) (fun _ _ _ _ _ _ us hl => match us, hl with | [_, _], _ => by kernel_rfl)
  are_units := gfn_of X G (c.def_ 9 (d := d_are_units) (by kernel_rfl)) (c.fact 9 (f := .glo "are_units") (by kernel_rfl)) (fun _ _ _ _ _ _ us hl => match us, hl with | [_], _ => by kernel_rfl)
  step_size := gfn_of X G (c.def_ 10 (d := d_step_size) (by kernel_rfl)) (c.fact 10 (f := .glo "step_size") (by kernel_rfl)) (fun _ _ _ _ _ _ us hl => match us, hl with | [_], _ => by kernel_rfl)
  are_tags := gfn_of X G (c.def_ 11 (d := d_are_tags) (by kernel_rfl)) (c.fact 11 (f := .glo "are_tags") (by kernel_rfl)) (fun _ _ _ _ _ _ us hl => match us, hl with | [_], _ => by kernel_rfl)
  is_presentation := gfn_of X G (c.def_ 12 (d := d_is_presentation) (by kernel_rfl)) (c.fact 12 (f := .glo "is_presentation") (by kernel_rfl)) (fun _ _ _ _ _ _ us hl => match us, hl with | [_], _ => by kernel_rfl)
  end_of := gfn_of X G (c.def_ 13 (d := d_end_of) (by kernel_rfl)) (c.fact 13 (f := .glo "end_of") (by kernel_rfl)) (fun _ _ _ _ _ _ us hl => match us, hl with | [_], _ => by kernel_rfl)
  put_steps := gfn_of X G (c.def_ 14 (d := d_put_steps) (by kernel_rfl)) (c.fact 14 (f := .glo "put_steps") (by kernel_rfl)) (fun _ _ _ _ _ _ us hl => match us, hl with | [_], _ => by kernel_rfl)
  get_steps := gfn_of X G (c.def_ 15 (d := d_get_steps) (by kernel_rfl)) (c.fact 15 (f := .glo "get_steps") (by kernel_rfl)) (fun _ _ _ _ _ _ us hl => match us, hl with | [_, _], _ => by kernel_rfl)
  checksum := gfn_of X G (c.def_ 16 (d := d_checksum) (by kernel_rfl)) (c.fact 16 (f := .glo "checksum") (by kernel_rfl)) (fun _ _ _ _ _ _ us hl => match us, hl with | [_], _ => by kernel_rfl)
  four_bytes := gfn_of X G (c.def_ 17 (d := d_four_bytes) (by kernel_rfl)) (c.fact 17 (f := .glo "four_bytes") (by kernel_rfl)) (fun _ _ _ _ _ _ us hl => match us, hl with | [_], _ => by kernel_rfl)
  number_of := gfn_of X G (c.def_ 18 (d := d_number_of) (by kernel_rfl)) (c.fact 18 (f := .glo "number_of") (by kernel_rfl)) (fun _ _ _ _ _ _ us hl => match us, hl with | [_], _ => by kernel_rfl)
  char_of := gfn_of X G (c.def_ 19 (d := d_char_of) (by kernel_rfl)) (c.fact 19 (f := .glo "char_of") (by kernel_rfl)) (fun _ _ _ _ _ _ us hl => match us, hl with | [_], _ => by kernel_rfl)
  bytes_of := gfn_of X G (c.def_ 20 (d := d_bytes_of) (by kernel_rfl)) (c.fact 20 (f := .glo "bytes_of") (by kernel_rfl)) (fun _ _ _ _ _ _ us hl => match us, hl with | [_], _ => by kernel_rfl)
  text_bytes := gfn_of X G (c.def_ 21 (d := d_text_bytes) (by kernel_rfl)) (c.fact 21 (f := .glo "text_bytes") (by kernel_rfl)) (fun _ _ _ _ _ _ us hl => match us, hl with | [_], _ => by kernel_rfl)
  head_of_rows := gfn_of X G (c.def_ 22 (d := d_head_of_rows) (by kernel_rfl)) (c.fact 22 (f := .glo "head_of_rows") (by kernel_rfl)) (fun _ _ _ _ _ _ us hl => match us, hl with | [_, _, _], _ => by kernel_rfl)
  tags_body := gfn_of X G (c.def_ 23 (d := d_tags_body) (by kernel_rfl)) (c.fact 23 (f := .glo "tags_body") (by kernel_rfl)) (fun _ _ _ _ _ _ us hl => match us, hl with | [_], _ => by kernel_rfl)
  index_body := gfn_of X G (c.def_ 24 (d := d_index_body) (by kernel_rfl)) (c.fact 24 (f := .glo "index_body") (by kernel_rfl)) (fun _ _ _ _ _ _ us hl => match us, hl with | [_], _ => by kernel_rfl)
  end_body := gfn_of X G (c.def_ 25 (d := d_end_body) (by kernel_rfl)) (c.fact 25 (f := .glo "end_body") (by kernel_rfl)) (fun _ _ _ _ _ _ us hl => match us, hl with | [_, _], _ => by kernel_rfl)
  unit_body := gfn_of X G (c.def_ 26 (d := d_unit_body) (by kernel_rfl)) (c.fact 26 (f := .glo "unit_body") (by kernel_rfl)) (fun _ _ _ _ _ _ us hl => match us, hl with | [_, _], _ => by kernel_rfl)
  read_head := gfn_of X G (c.def_ 27 (d := d_read_head) (by kernel_rfl)) (c.fact 27 (f := .glo "read_head") (by kernel_rfl)) (fun _ _ _ _ _ _ us hl => match us, hl with | [_], _ => by kernel_rfl)
  read_tags := gfn_of X G (c.def_ 28 (d := d_read_tags) (by kernel_rfl)) (c.fact 28 (f := .glo "read_tags") (by kernel_rfl)) (fun _ _ _ _ _ _ us hl => match us, hl with | [_], _ => by kernel_rfl)
  read_index := gfn_of X G (c.def_ 29 (d := d_read_index) (by kernel_rfl)) (c.fact 29 (f := .glo "read_index") (by kernel_rfl)) (fun _ _ _ _ _ _ us hl => match us, hl with | [_], _ => by kernel_rfl)
  read_end := gfn_of X G (c.def_ 30 (d := d_read_end) (by kernel_rfl)) (c.fact 30 (f := .glo "read_end") (by kernel_rfl)) (fun _ _ _ _ _ _ us hl => match us, hl with | [_], _ => by kernel_rfl)
  read_content := gfn_of X G (c.def_ 31 (d := d_read_content) (by kernel_rfl)) (c.fact 31 (f := .glo "read_content") (by kernel_rfl)) (fun _ _ _ _ _ _ us hl => match us, hl with | [_, _], _ => by kernel_rfl)
  write_leaf := gfn_of X G (c.def_ 32 (d := d_write_leaf) (by kernel_rfl)) (c.fact 32 (f := .glo "write_leaf") (by kernel_rfl)) (fun _ _ _ _ _ _ us hl => match us, hl with | [_], _ => by kernel_rfl)
  small_byte := gfn_of X G (c.def_ 33 (d := d_small_byte) (by kernel_rfl)) (c.fact 33 (f := .glo "small_byte") (by kernel_rfl)) (fun _ _ _ _ _ _ us hl => match us, hl with | [_, _, _], _ => by kernel_rfl)
  word_at := gfn_of X G (c.def_ 34 (d := d_word_at) (by kernel_rfl)) (c.fact 34 (f := .glo "word_at") (by kernel_rfl)) (fun _ _ _ _ _ _ us hl => match us, hl with | [_, _, _], _ => by kernel_rfl)
  steps_at := gfn_of X G (c.def_ 35 (d := d_steps_at) (by kernel_rfl)) (c.fact 35 (f := .glo "steps_at") (by kernel_rfl)) (fun _ _ _ _ _ _ us hl => match us, hl with | [_, _, _, _], _ => by kernel_rfl)
  read_leaf := gfn_of X G (c.def_ 36 (d := d_read_leaf) (by kernel_rfl)) (c.fact 36 (f := .glo "read_leaf") (by kernel_rfl)) (fun _ _ _ _ _ _ us hl => match us, hl with | [_], _ => by kernel_rfl)
  stuff := gfn_of X G (c.def_ 37 (d := d_stuff) (by kernel_rfl)) (c.fact 37 (f := .glo "stuff") (by kernel_rfl)) (fun _ _ _ _ _ _ us hl => match us, hl with | [_], _ => by kernel_rfl)
  unstuff := gfn_of X G (c.def_ 38 (d := d_unstuff) (by kernel_rfl)) (c.fact 38 (f := .glo "unstuff") (by kernel_rfl)) (fun _ _ _ _ _ _ us hl => match us, hl with | [_], _ => by kernel_rfl)
  unstuffed := gfn_of X G (c.def_ 39 (d := d_unstuffed) (by kernel_rfl)) (c.fact 39 (f := .glo "unstuffed") (by kernel_rfl)) (fun _ _ _ _ _ _ us hl => match us, hl with | [_, _], _ => by kernel_rfl)
  leaf_of := gfn_of X G (c.def_ 40 (d := d_leaf_of) (by kernel_rfl)) (c.fact 40 (f := .glo "leaf_of") (by kernel_rfl)) (fun _ _ _ _ _ _ us hl => match us, hl with | [_, _], _ => by kernel_rfl)
  checked_leaves := gfn_of X G (c.def_ 41 (d := d_checked_leaves) (by kernel_rfl)) (c.fact 41 (f := .glo "checked_leaves") (by kernel_rfl)) (fun _ _ _ _ _ _ us hl => match us, hl with | [_], _ => by kernel_rfl)
  last_key := gfn_of X G (c.def_ 42 (d := d_last_key) (by kernel_rfl)) (c.fact 42 (f := .glo "last_key") (by kernel_rfl)) (fun _ _ _ _ _ _ us hl => match us, hl with | [_, _, _], _ => by kernel_rfl)
  greedy := gfn_of X G (c.def_ 43 (d := d_greedy) (by kernel_rfl)) (c.fact 43 (f := .glo "greedy") (by kernel_rfl)) (fun _ _ _ _ _ _ us hl => match us, hl with | [_, _], _ => by kernel_rfl)
  greedy_index := gfn_of X G (c.def_ 44 (d := d_greedy_index) (by kernel_rfl)) (c.fact 44 (f := .glo "greedy_index") (by kernel_rfl)) (fun _ _ _ _ _ _ us hl => match us, hl with | [_, _], _ => by kernel_rfl)
  best_index := gfn_of X G (c.def_ 45 (d := d_best_index) (by kernel_rfl)) (c.fact 45 (f := .glo "best_index") (by kernel_rfl)) (fun _ _ _ _ _ _ us hl => match us, hl with | [_, _], _ => by kernel_rfl)
  write_leaves := gfn_of X G (c.def_ 46 (d := d_write_leaves) (by kernel_rfl)) (c.fact 46 (f := .glo "write_leaves") (by kernel_rfl)) (fun _ _ _ _ _ _ us hl => match us, hl with | [_], _ => by kernel_rfl)
  in_times := gfn_of X G (c.def_ 47 (d := d_in_times) (by kernel_rfl)) (c.fact 47 (f := .glo "in_times") (by kernel_rfl)) (fun _ _ _ _ _ _ us hl => match us, hl with | [_], _ => by kernel_rfl)
  written := gfn_of X G (c.def_ 48 (d := d_written) (by kernel_rfl)) (c.fact 48 (f := .glo "written") (by kernel_rfl)) (fun _ _ _ _ _ _ us hl => match us, hl with | [_, _, _, _, _, _], _ => by kernel_rfl)
  file_from := gfn_of X G (c.def_ 49 (d := d_file_from) (by kernel_rfl)) (c.fact 49 (f := .glo "file_from") (by kernel_rfl)) (fun _ _ _ _ _ _ us hl => match us, hl with | [_, _, _, _, _], _ => by kernel_rfl)
  with_bodies := gfn_of X G (c.def_ 50 (d := d_with_bodies) (by kernel_rfl)) (c.fact 50 (f := .glo "with_bodies") (by kernel_rfl)) (fun _ _ _ _ _ _ us hl => match us, hl with | [_], _ => by kernel_rfl)
  write := (gfn_of1 (x := "write") (st := s_write) (ps := p_write) 2 rfl X G (c.def_ 51 (d := d_write) (by kernel_rfl)) (c.fact 51 (f := .glo "write") (by kernel_rfl)) (fun _ _ _ _ _ _ _ us its hl h2 => match us, its, hl, h2 with | [_, _, _], [_], _, _ => ⟨_, rfl, rfl⟩) (fun _ _ _ _ _ _ _ us its hl h2 => match us, its, hl, h2 with | [_, _], [_], _, _ => ⟨_, rfl, rfl⟩)).1
  write_b1 := (gfn_of1 (x := "write") (st := s_write) (ps := p_write) 2 rfl X G (c.def_ 51 (d := d_write) (by kernel_rfl)) (c.fact 51 (f := .glo "write") (by kernel_rfl)) (fun _ _ _ _ _ _ _ us its hl h2 => match us, its, hl, h2 with | [_, _, _], [_], _, _ => ⟨_, rfl, rfl⟩) (fun _ _ _ _ _ _ _ us its hl h2 => match us, its, hl, h2 with | [_, _], [_], _, _ => ⟨_, rfl, rfl⟩)).2
  check_alike := gfn_of X G (c.def_ 52 (d := d_check_alike) (by kernel_rfl)) (c.fact 52 (f := .glo "check_alike") (by kernel_rfl)) (fun _ _ _ _ _ _ us hl => match us, hl with | [_, _], _ => by kernel_rfl)
  check_length := gfn_of X G (c.def_ 53 (d := d_check_length) (by kernel_rfl)) (c.fact 53 (f := .glo "check_length") (by kernel_rfl)) (fun _ _ _ _ _ _ us hl => match us, hl with | [_, _, _], _ => by kernel_rfl)
  joined_tags := gfn_of X G (c.def_ 54 (d := d_joined_tags) (by kernel_rfl)) (c.fact 54 (f := .glo "joined_tags") (by kernel_rfl)) (fun _ _ _ _ _ _ us hl => match us, hl with | [_, _], _ => by kernel_rfl)
  join := gfn_of X G (c.def_ 55 (d := d_join) (by kernel_rfl)) (c.fact 55 (f := .glo "join") (by kernel_rfl)) (fun _ _ _ _ _ _ us hl => match us, hl with | [_, _, _, _], _ => by kernel_rfl)
  taken := gfn_of X G (c.def_ 56 (d := d_taken) (by kernel_rfl)) (c.fact 56 (f := .glo "taken") (by kernel_rfl)) (fun _ _ _ _ _ _ us hl => match us, hl with | [_, _, _], _ => by kernel_rfl)
  cut := gfn_of X G (c.def_ 57 (d := d_cut) (by kernel_rfl)) (c.fact 57 (f := .glo "cut") (by kernel_rfl)) (fun _ _ _ _ _ _ us hl => match us, hl with | [_, _, _, _, _], _ => by kernel_rfl)
  shown := (gfn_of1 (x := "shown") (st := s_shown) (ps := p_shown) 2 rfl X G (c.def_ 58 (d := d_shown) (by kernel_rfl)) (c.fact 58 (f := .glo "shown") (by kernel_rfl)) (fun _ _ _ _ _ _ _ us its hl h2 => match us, its, hl, h2 with | [_, _, _], [_], _, _ => ⟨_, rfl, rfl⟩) (fun _ _ _ _ _ _ _ us its hl h2 => match us, its, hl, h2 with | [_, _], [_], _, _ => ⟨_, rfl, rfl⟩)).1
  shown_b1 := (gfn_of1 (x := "shown") (st := s_shown) (ps := p_shown) 2 rfl X G (c.def_ 58 (d := d_shown) (by kernel_rfl)) (c.fact 58 (f := .glo "shown") (by kernel_rfl)) (fun _ _ _ _ _ _ _ us its hl h2 => match us, its, hl, h2 with | [_, _, _], [_], _, _ => ⟨_, rfl, rfl⟩) (fun _ _ _ _ _ _ _ us its hl h2 => match us, its, hl, h2 with | [_, _], [_], _, _ => ⟨_, rfl, rfl⟩)).2
  whole_show := gfn_of X G (c.def_ 59 (d := d_whole_show) (by kernel_rfl)) (c.fact 59 (f := .glo "whole_show") (by kernel_rfl)) (fun _ _ _ _ _ _ us hl => match us, hl with | [_], _ => by kernel_rfl)
  copied := gfn_of X G (c.def_ 60 (d := d_copied) (by kernel_rfl)) (c.fact 60 (f := .glo "copied") (by kernel_rfl)) (fun _ _ _ _ _ _ us hl => match us, hl with | [_], _ => by kernel_rfl)
  read := gfn_of X G (c.def_ 61 (d := d_read) (by kernel_rfl)) (c.fact 61 (f := .glo "read") (by kernel_rfl)) (fun _ _ _ _ _ _ us hl => match us, hl with | [_], _ => by kernel_rfl)
  lw_draws := gfn_of X G (c.def_ 62 (d := d_lw_draws) (by kernel_rfl)) (c.fact 62 (f := .glo "_law_draws") (by kernel_rfl)) (fun _ _ _ _ _ _ us hl => match us, hl with | [_], _ => by kernel_rfl)
  lw_at := gfn_of X G (c.def_ 63 (d := d_lw_at) (by kernel_rfl)) (c.fact 63 (f := .glo "_law_at") (by kernel_rfl)) (fun _ _ _ _ _ _ us hl => match us, hl with | [_, _, _], _ => by kernel_rfl)
  lw_mix := gfn_of X G (c.def_ 64 (d := d_lw_mix) (by kernel_rfl)) (c.fact 64 (f := .glo "_law_mix") (by kernel_rfl)) (fun _ _ _ _ _ _ us hl => match us, hl with | [_, _, _], _ => by kernel_rfl)
  lw_content := gfn_of X G (c.def_ 65 (d := d_lw_content) (by kernel_rfl)) (c.fact 65 (f := .glo "_law_content") (by kernel_rfl)) (fun _ _ _ _ _ _ us hl => match us, hl with | [_, _, _], _ => by kernel_rfl)
  lw_units := gfn_of X G (c.def_ 66 (d := d_lw_units) (by kernel_rfl)) (c.fact 66 (f := .glo "_law_units") (by kernel_rfl)) (fun _ _ _ _ _ _ us hl => match us, hl with | [_, _, _], _ => by kernel_rfl)
  lw_tags := gfn_of X G (c.def_ 67 (d := d_lw_tags) (by kernel_rfl)) (c.fact 67 (f := .glo "_law_tags") (by kernel_rfl)) (fun _ _ _ _ _ _ us hl => match us, hl with | [_, _], _ => by kernel_rfl)
  lw_presentation := gfn_of X G (c.def_ 68 (d := d_lw_presentation) (by kernel_rfl)) (c.fact 68 (f := .glo "_law_presentation") (by kernel_rfl)) (fun _ _ _ _ _ _ us hl => match us, hl with | [_, _, _], _ => by kernel_rfl)
  law := gfn_of X G (c.def_ 69 (d := d_law) (by kernel_rfl)) (c.fact 69 (f := .glo "law") (by kernel_rfl)) (fun _ _ _ _ _ _ us hl => match us, hl with | [_], _ => by kernel_rfl)
  BodyReader_init := mfn_of (c.def_ 70 (d := d_BodyReader_init) (by kernel_rfl)) (fun _ _ _ _ _ _ us hl => match us, hl with | [_, _], _ => by kernel_rfl)
  BodyReader_number := mfn_of (c.def_ 71 (d := d_BodyReader_number) (by kernel_rfl)) (fun _ _ _ _ _ _ us hl => match us, hl with | [_, _, _], _ => by kernel_rfl)
  m_BodyReader_number := He.meth_ok (c.fact 102 (f := .meth "BodyReader" "number") (by kernel_rfl))
  BodyReader_take := mfn_of (c.def_ 72 (d := d_BodyReader_take) (by kernel_rfl)) (fun _ _ _ _ _ _ us hl => match us, hl with | [_, _], _ => by kernel_rfl)
  m_BodyReader_take := He.meth_ok (c.fact 103 (f := .meth "BodyReader" "take") (by kernel_rfl))
  BodyReader_text := mfn_of (c.def_ 73 (d := d_BodyReader_text) (by kernel_rfl)) (fun _ _ _ _ _ _ us hl => match us, hl with | [_, _], _ => by kernel_rfl)
  m_BodyReader_text := He.meth_ok (c.fact 104 (f := .meth "BodyReader" "text") (by kernel_rfl))
  BodyReader_word := mfn_of (c.def_ 74 (d := d_BodyReader_word) (by kernel_rfl)) (fun _ _ _ _ _ _ us hl => match us, hl with | [_], _ => by kernel_rfl)
  m_BodyReader_word := He.meth_ok (c.fact 105 (f := .meth "BodyReader" "word") (by kernel_rfl))
  BodyReader_close := mfn_of (c.def_ 75 (d := d_BodyReader_close) (by kernel_rfl)) (fun _ _ _ _ _ _ us hl => match us, hl with | [_], _ => by kernel_rfl)
  m_BodyReader_close := He.meth_ok (c.fact 106 (f := .meth "BodyReader" "close") (by kernel_rfl))
  LeafReader_init := mfn_of (c.def_ 76 (d := d_LeafReader_init) (by kernel_rfl)) (fun _ _ _ _ _ _ us hl => match us, hl with | [_], _ => by kernel_rfl)
  LeafReader_extend := mfn_of (c.def_ 77 (d := d_LeafReader_extend) (by kernel_rfl)) (fun _ _ _ _ _ _ us hl => match us, hl with | [_, _], _ => by kernel_rfl)
  m_LeafReader_extend := He.meth_ok (c.fact 107 (f := .meth "LeafReader" "extend") (by kernel_rfl))
  LeafReader_next_leaf := mfn_of (c.def_ 78 (d := d_LeafReader_next_leaf) (by kernel_rfl)) (fun _ _ _ _ _ _ us hl => match us, hl with | [_], _ => by kernel_rfl)
  m_LeafReader_next_leaf := He.meth_ok (c.fact 108 (f := .meth "LeafReader" "next_leaf") (by kernel_rfl))
  LeafReader_finish := mfn_of (c.def_ 79 (d := d_LeafReader_finish) (by kernel_rfl)) (fun _ _ _ _ _ _ us hl => match us, hl with | [_], _ => by kernel_rfl)
  m_LeafReader_finish := He.meth_ok (c.fact 109 (f := .meth "LeafReader" "finish") (by kernel_rfl))
  LeafReader_check_leaf := mfn_of (c.def_ 80 (d := d_LeafReader_check_leaf) (by kernel_rfl)) (fun _ _ _ _ _ _ us hl => match us, hl with | [_, _], _ => by kernel_rfl)
  m_LeafReader_check_leaf := He.meth_ok (c.fact 110 (f := .meth "LeafReader" "check_leaf") (by kernel_rfl))
  LeafReader_is_in_order := mfn_of (c.def_ 81 (d := d_LeafReader_is_in_order) (by kernel_rfl)) (fun _ _ _ _ _ _ us hl => match us, hl with | [_, _], _ => by kernel_rfl)
  m_LeafReader_is_in_order := He.meth_ok (c.fact 111 (f := .meth "LeafReader" "is_in_order") (by kernel_rfl))
  LeafReader_check_body := mfn_of (c.def_ 82 (d := d_LeafReader_check_body) (by kernel_rfl)) (fun _ _ _ _ _ _ us hl => match us, hl with | [_, _, _], _ => by kernel_rfl)
  m_LeafReader_check_body := He.meth_ok (c.fact 112 (f := .meth "LeafReader" "check_body") (by kernel_rfl))
  LeafReader_check_unit := mfn_of (c.def_ 83 (d := d_LeafReader_check_unit) (by kernel_rfl)) (fun _ _ _ _ _ _ us hl => match us, hl with | [_, _], _ => by kernel_rfl)
  m_LeafReader_check_unit := He.meth_ok (c.fact 113 (f := .meth "LeafReader" "check_unit") (by kernel_rfl))
  LeafReader_check_entries := mfn_of (c.def_ 84 (d := d_LeafReader_check_entries) (by kernel_rfl)) (fun _ _ _ _ _ _ us hl => match us, hl with | [_], _ => by kernel_rfl)
  m_LeafReader_check_entries := He.meth_ok (c.fact 114 (f := .meth "LeafReader" "check_entries") (by kernel_rfl))
  LeafReader_check_end := mfn_of (c.def_ 85 (d := d_LeafReader_check_end) (by kernel_rfl)) (fun _ _ _ _ _ _ us hl => match us, hl with | [_, _, _], _ => by kernel_rfl)
  m_LeafReader_check_end := He.meth_ok (c.fact 115 (f := .meth "LeafReader" "check_end") (by kernel_rfl))
  LeafWriter_init := mfn_of (c.def_ 86 (d := d_LeafWriter_init) (by kernel_rfl)) (fun _ _ _ _ _ _ us hl => match us, hl with | [_, _], _ => by kernel_rfl)
  LeafWriter_add := mfn_of (c.def_ 87 (d := d_LeafWriter_add) (by kernel_rfl)) (fun _ _ _ _ _ _ us hl => match us, hl with | [_, _, _, _, _, _, _, _], _ => by kernel_rfl)
  m_LeafWriter_add := He.meth_ok (c.fact 116 (f := .meth "LeafWriter" "add") (by kernel_rfl))
  LeafWriter_add_plain := mfn_of (c.def_ 88 (d := d_LeafWriter_add_plain) (by kernel_rfl)) (fun _ _ _ _ _ _ us hl => match us, hl with | [_, _, _], _ => by kernel_rfl)
  m_LeafWriter_add_plain := He.meth_ok (c.fact 117 (f := .meth "LeafWriter" "add_plain") (by kernel_rfl))
  Reader_init := mfn_of (c.def_ 89 (d := d_Reader_init) (by kernel_rfl)) (fun _ _ _ _ _ _ us hl => match us, hl with | [_], _ => by kernel_rfl)
  Reader_feed := mfn_of (c.def_ 90 (d := d_Reader_feed) (by kernel_rfl)) (fun _ _ _ _ _ _ us hl => match us, hl with | [_, _], _ => by kernel_rfl)
  m_Reader_feed := He.meth_ok (c.fact 118 (f := .meth "Reader" "feed") (by kernel_rfl))
  Reader__later_unit := mfn_of (c.def_ 91 (d := d_Reader__later_unit) (by kernel_rfl)) (fun _ _ _ _ _ _ us hl => match us, hl with | [_], _ => by kernel_rfl)
  m_Reader__later_unit := He.meth_ok (c.fact 119 (f := .meth "Reader" "_later_unit") (by kernel_rfl))
  Reader__next_unit := mfn_of (c.def_ 92 (d := d_Reader__next_unit) (by kernel_rfl)) (fun _ _ _ _ _ _ us hl => match us, hl with | [_], _ => by kernel_rfl)
  m_Reader__next_unit := He.meth_ok (c.fact 120 (f := .meth "Reader" "_next_unit") (by kernel_rfl))
  Reader_close := mfn_of (c.def_ 93 (d := d_Reader_close) (by kernel_rfl)) (fun _ _ _ _ _ _ us hl => match us, hl with | [_], _ => by kernel_rfl)
  m_Reader_close := He.meth_ok (c.fact 121 (f := .meth "Reader" "close") (by kernel_rfl))
  g_BodyReader := He.glo_ok X G (c.fact 70 (f := .glo "BodyReader") (by kernel_rfl))
  cl_BodyReader := He.cls_ok (c.fact 71 (f := .cls "BodyReader") (by kernel_rfl))
  mk_BodyReader := He.mkr_ok (c.fact 72 (f := .mkr "BodyReader") (by kernel_rfl))
  na_BodyReader_body := He.noat_ok (c.fact 82 (f := .noat "BodyReader" "body") (by kernel_rfl))
  na_BodyReader_at := He.noat_ok (c.fact 83 (f := .noat "BodyReader" "at") (by kernel_rfl))
  g_LeafReader := He.glo_ok X G (c.fact 73 (f := .glo "LeafReader") (by kernel_rfl))
  cl_LeafReader := He.cls_ok (c.fact 74 (f := .cls "LeafReader") (by kernel_rfl))
  mk_LeafReader := He.mkr_ok (c.fact 75 (f := .mkr "LeafReader") (by kernel_rfl))
  na_LeafReader_data := He.noat_ok (c.fact 84 (f := .noat "LeafReader" "data") (by kernel_rfl))
  na_LeafReader_at := He.noat_ok (c.fact 85 (f := .noat "LeafReader" "at") (by kernel_rfl))
  na_LeafReader_scan := He.noat_ok (c.fact 86 (f := .noat "LeafReader" "scan") (by kernel_rfl))
  na_LeafReader_count := He.noat_ok (c.fact 87 (f := .noat "LeafReader" "count") (by kernel_rfl))
  na_LeafReader_stamp := He.noat_ok (c.fact 88 (f := .noat "LeafReader" "stamp") (by kernel_rfl))
  na_LeafReader_last := He.noat_ok (c.fact 89 (f := .noat "LeafReader" "last") (by kernel_rfl))
  na_LeafReader_head := He.noat_ok (c.fact 90 (f := .noat "LeafReader" "head") (by kernel_rfl))
  na_LeafReader_tags := He.noat_ok (c.fact 91 (f := .noat "LeafReader" "tags") (by kernel_rfl))
  na_LeafReader_entries := He.noat_ok (c.fact 92 (f := .noat "LeafReader" "entries") (by kernel_rfl))
  na_LeafReader_units := He.noat_ok (c.fact 93 (f := .noat "LeafReader" "units") (by kernel_rfl))
  na_LeafReader_places := He.noat_ok (c.fact 94 (f := .noat "LeafReader" "places") (by kernel_rfl))
  g_LeafWriter := He.glo_ok X G (c.fact 76 (f := .glo "LeafWriter") (by kernel_rfl))
  cl_LeafWriter := He.cls_ok (c.fact 77 (f := .cls "LeafWriter") (by kernel_rfl))
  mk_LeafWriter := He.mkr_ok (c.fact 78 (f := .mkr "LeafWriter") (by kernel_rfl))
  na_LeafWriter_stamp := He.noat_ok (c.fact 95 (f := .noat "LeafWriter" "stamp") (by kernel_rfl))
  na_LeafWriter_leaves := He.noat_ok (c.fact 96 (f := .noat "LeafWriter" "leaves") (by kernel_rfl))
  na_LeafWriter_data := He.noat_ok (c.fact 97 (f := .noat "LeafWriter" "data") (by kernel_rfl))
  g_Reader := He.glo_ok X G (c.fact 79 (f := .glo "Reader") (by kernel_rfl))
  cl_Reader := He.cls_ok (c.fact 80 (f := .cls "Reader") (by kernel_rfl))
  mk_Reader := He.mkr_ok (c.fact 81 (f := .mkr "Reader") (by kernel_rfl))
  na_Reader_leaves := He.noat_ok (c.fact 98 (f := .noat "Reader" "_leaves") (by kernel_rfl))
  na_Reader_units := He.noat_ok (c.fact 99 (f := .noat "Reader" "_units") (by kernel_rfl))
  na_Reader_given := He.noat_ok (c.fact 100 (f := .noat "Reader" "_given") (by kernel_rfl))
  na_Reader_bad := He.noat_ok (c.fact 101 (f := .noat "Reader" "_bad") (by kernel_rfl))
  z_len := He.free_ok X G (c.fact 122 (f := .free "len") (by kernel_rfl))
  z_max := He.free_ok X G (c.fact 123 (f := .free "max") (by kernel_rfl))
  z_min := He.free_ok X G (c.fact 124 (f := .free "min") (by kernel_rfl))
  z_range := He.free_ok X G (c.fact 125 (f := .free "range") (by kernel_rfl))
  z_int := He.free_ok X G (c.fact 126 (f := .free "int") (by kernel_rfl))
  z_ord := He.free_ok X G (c.fact 127 (f := .free "ord") (by kernel_rfl))
  z_sorted := He.free_ok X G (c.fact 128 (f := .free "sorted") (by kernel_rfl))
  z_list := He.free_ok X G (c.fact 129 (f := .free "list") (by kernel_rfl))
  z_tuple := He.free_ok X G (c.fact 130 (f := .free "tuple") (by kernel_rfl))
  z_all := He.free_ok X G (c.fact 131 (f := .free "all") (by kernel_rfl))
  z_abs := He.free_ok X G (c.fact 132 (f := .free "abs") (by kernel_rfl))
  g_TRACK := He.int_ok X G (c.fact 133 (f := .int "TRACK" 3) (by kernel_rfl))
  g_ORDINAL := He.int_ok X G (c.fact 134 (f := .int "ORDINAL" 4) (by kernel_rfl))
  g_TIME := He.int_ok X G (c.fact 135 (f := .int "TIME" 5) (by kernel_rfl))
  g_SPAN := He.int_ok X G (c.fact 136 (f := .int "SPAN" 6) (by kernel_rfl))
  g_KEY := He.int_ok X G (c.fact 137 (f := .int "KEY" 7) (by kernel_rfl))
  g_BODY := He.int_ok X G (c.fact 138 (f := .int "BODY" 8) (by kernel_rfl))
  g_MOST_TICKS := He.int_ok X G (c.fact 139 (f := .int "MOST_TICKS" 90000) (by kernel_rfl))
  g_TIME_BOUND := He.int_ok X G (c.fact 140 (f := .int "TIME_BOUND" 1099511627776) (by kernel_rfl))
  g_SPAN_BOUND := He.int_ok X G (c.fact 141 (f := .int "SPAN_BOUND" 16777216) (by kernel_rfl))
  g_MOST_TRACKS := He.int_ok X G (c.fact 142 (f := .int "MOST_TRACKS" 15) (by kernel_rfl))
  g_MOST_UNITS_presentation := He.int_ok X G (c.fact 143 (f := .int "MOST_UNITS_presentation" 300) (by kernel_rfl))
  g_MOST_CONTENT := He.int_ok X G (c.fact 144 (f := .int "MOST_CONTENT" 200) (by kernel_rfl))
  g_MOST_NAME := He.int_ok X G (c.fact 145 (f := .int "MOST_NAME" 32) (by kernel_rfl))
  g_MOST_WORD := He.int_ok X G (c.fact 146 (f := .int "MOST_WORD" 16) (by kernel_rfl))
  g_MOST_VALUE := He.int_ok X G (c.fact 147 (f := .int "MOST_VALUE" 100) (by kernel_rfl))
  g_MOST_BODY_presentation := He.int_ok X G (c.fact 148 (f := .int "MOST_BODY_presentation" 1024) (by kernel_rfl))
  g_BOUND := He.int_ok X G (c.fact 149 (f := .int "BOUND" 1099511627776) (by kernel_rfl))
  g_MOST_BYTES := He.int_ok X G (c.fact 150 (f := .int "MOST_BYTES" 6) (by kernel_rfl))
  g_FULL := He.int_ok X G (c.fact 151 (f := .int "FULL" 4294967295) (by kernel_rfl))
  g_POLYNOMIAL := He.int_ok X G (c.fact 152 (f := .int "POLYNOMIAL" 3988292384) (by kernel_rfl))
  g_VERSION := He.int_ok X G (c.fact 153 (f := .int "VERSION" 1) (by kernel_rfl))
  g_MOST_ENTRIES := He.int_ok X G (c.fact 154 (f := .int "MOST_ENTRIES" 100) (by kernel_rfl))
  g_MOST_LEAVES := He.int_ok X G (c.fact 155 (f := .int "MOST_LEAVES" 4294967295) (by kernel_rfl))
  g_HEAD := He.int_ok X G (c.fact 156 (f := .int "HEAD" 0) (by kernel_rfl))
  g_TAGS := He.int_ok X G (c.fact 157 (f := .int "TAGS" 1) (by kernel_rfl))
  g_UNIT := He.int_ok X G (c.fact 158 (f := .int "UNIT" 2) (by kernel_rfl))
  g_INDEX := He.int_ok X G (c.fact 159 (f := .int "INDEX" 3) (by kernel_rfl))
  g_END := He.int_ok X G (c.fact 160 (f := .int "END" 4) (by kernel_rfl))
  g_WORD := He.int_ok X G (c.fact 161 (f := .int "WORD" 4294967295) (by kernel_rfl))
  g_MOST_BODY_leaves := He.int_ok X G (c.fact 162 (f := .int "MOST_BODY_leaves" 1024) (by kernel_rfl))
  g_FULL_BLOCK := He.int_ok X G (c.fact 163 (f := .int "FULL_BLOCK" 255) (by kernel_rfl))
  g_TIME_LIMIT := He.int_ok X G (c.fact 164 (f := .int "TIME_LIMIT" 1099511627776) (by kernel_rfl))
  g_MOST_UNITS_joining := He.int_ok X G (c.fact 165 (f := .int "MOST_UNITS_joining" 300) (by kernel_rfl))
  g_MOST_BODY_joining := He.int_ok X G (c.fact 166 (f := .int "MOST_BODY_joining" 1024) (by kernel_rfl))
  g_LETTERS := He.str_ok X G (c.fact 167 (f := .str "LETTERS" "spool") (by kernel_rfl))
  g_CHARS := He.str_ok X G (c.fact 168 (f := .str "CHARS" " !\"#$&'()*+,-./0123456789:;<=>?@ABCDEFGHIJKLMNOPQRSTUVWXYZ[\\]^_`abcdefghijklmnopqrstuvwxyz{|}~") (by kernel_rfl))
  g_MOST := He.glo_ok X G (c.fact 169 (f := .glo "MOST") (by kernel_rfl))
  t_MOST := fun H => He.tupB_ok ht H
end Sp
namespace Sp
open PySem PySem.Spec PyProof.Rows L2
/-! ### the head: the objects that are looked at -/
def refA : Option (Option Value) → List Addr
  | some (some (.ref a)) => [a]
  | _ => []
def lkA (g : Addr → Option Obj) (d : Addr) (x : Str) : List Addr := match g d with
  | some o => refA (PySem.W.lookIn x o)
  | none => []
def frA (g : Addr → Option Obj) (a : Addr) : List Addr := a :: (match g a with
  | some o => (match o.data with
    | .func fd => He.refV fd.code ++ He.refV fd.defaults
    | _ => [])
  | none => [])
def fnN : List Str := (["by_track", "moved", "end_of_units", "alike", "change", "changed", "is_line", "is_word", "is_row", "are_units", "step_size", "are_tags"] : List Str) ++ (["is_presentation", "end_of", "put_steps", "get_steps", "checksum", "four_bytes", "number_of", "char_of", "bytes_of", "text_bytes", "head_of_rows", "tags_body"] : List Str) ++ (["index_body", "end_body", "unit_body", "read_head", "read_tags", "read_index", "read_end", "read_content", "write_leaf", "small_byte", "word_at", "steps_at"] : List Str) ++ (["read_leaf", "stuff", "unstuff", "unstuffed", "leaf_of", "checked_leaves", "last_key", "greedy", "greedy_index", "best_index", "write_leaves", "in_times"] : List Str) ++ (["written", "file_from", "with_bodies", "write", "check_alike", "check_length", "joined_tags", "join", "taken", "cut", "shown", "whole_show"] : List Str) ++ (["copied", "read", "_law_draws", "_law_at", "_law_mix", "_law_content", "_law_units", "_law_tags", "_law_presentation", "law"] : List Str)
def clN : List (Str × List Str) := [("BodyReader", (["__init__", "number", "take", "text", "word", "close"] : List Str)), ("LeafReader", (["__init__", "extend", "next_leaf", "finish", "check_leaf", "is_in_order", "check_body", "check_unit", "check_entries", "check_end"] : List Str)), ("LeafWriter", (["__init__", "add", "add_plain"] : List Str)), ("Reader", (["__init__", "feed", "_later_unit", "_next_unit", "close"] : List Str))]
def asS (g : Addr → Option Obj) : List Addr := mainGlobals :: (fnN.flatMap fun x => (lkA g mainGlobals x).flatMap (frA g)) ++ (clN.flatMap fun p => (lkA g mainGlobals p.1).flatMap fun a => a :: (match g a with
  | some o => (match o.data with
    | .cls cd => cd.ns :: (p.2.flatMap fun m => (lkA g cd.ns m).flatMap (frA g))
    | _ => [])
  | none => [])) ++ lkA g mainGlobals "MOST"
abbrev AlS : Type := He.AlD × Bool
def obsS (K : PySem.W.Frag) : AlS := (He.obsD fa fn K, He.tupB K "MOST" mostV)
def obsG (g : Addr → Option Obj) : AlS := obsS (He.frG g (asS g))
def valS : AlS := (He.valD fn, true)
def hookS : PySem.W.Hook where
  α := AlS
  obs := fun s => obsG s.heap.get?
  val := fun _ => valS
  says := fun _ h => ∃ K : PySem.W.Frag, K.In h ∧ obsS K = valS
  of := fun _ _ e => ⟨_, He.frG_in, e⟩
  keeps := fun _ _ _ ⟨K, hK, c⟩ k => ⟨K, PySem.W.Frag.In.keeps hK k, c⟩
end Sp
noncomputable section
namespace Sp
open PySem PySem.W PySem.Calls PyProof.Rows
abbrev R : OpenRow := OpenLaw.row PySem.Challenge.rw_spoolbox_k42_whole_cut_out_of_a_join
abbrev qv : Program := view R.prog [174]
def obT (s : SharedT) : AlS := obsG (HandSHeadRun.getT s)
theorem obT_eq (s : SharedT) : obT s = hookS.obs s.abs := by
  have e : HandSHeadRun.getT s = s.abs.heap.get? := funext (HandSHeadRun.getT_eq s)
  unfold obT
  rw [e] <;> rfl
def loose0 : List PySem.Str := [("_wall" : PySem.Str), ("SpoolboxError" : PySem.Str), ("OutOfRange" : PySem.Str), ("LooseNumber" : PySem.Str), ("Truncated" : PySem.Str), ("BadStuffing" : PySem.Str), ("BadKind" : PySem.Str), ("BadStamp" : PySem.Str), ("BadNumber" : PySem.Str), ("BadTrack" : PySem.Str), ("BadOrdinal" : PySem.Str), ("BadTime" : PySem.Str)]
def loose1 : List PySem.Str := [("BadSpan" : PySem.Str), ("BadKey" : PySem.Str), ("BadSize" : PySem.Str), ("ShortBody" : PySem.Str), ("BadCheck" : PySem.Str), ("NotAPresentation" : PySem.Str), ("BadChange" : PySem.Str), ("BadBody" : PySem.Str), ("BadStart" : PySem.Str), ("CutOff" : PySem.Str), ("EmptyPiece" : PySem.Str), ("OtherStamp" : PySem.Str)]
def loose2 : List PySem.Str := [("WrongNumber" : PySem.Str), ("WrongOrder" : PySem.Str), ("WrongFields" : PySem.Str), ("NoTrack" : PySem.Str), ("TooManyUnits" : PySem.Str), ("WrongOrdinal" : PySem.Str), ("WrongTime" : PySem.Str), ("WrongKey" : PySem.Str), ("WrongEntry" : PySem.Str), ("WrongCount" : PySem.Str), ("WrongSum" : PySem.Str), ("MissingUnits" : PySem.Str)]
def loose3 : List PySem.Str := [("Behind" : PySem.Str), ("NoEnd" : PySem.Str), ("NotAlike" : PySem.Str), ("HasSkip" : PySem.Str), ("TooLong" : PySem.Str), ("TooManyTags" : PySem.Str), ("TRACK" : PySem.Str), ("ORDINAL" : PySem.Str), ("TIME" : PySem.Str), ("SPAN" : PySem.Str), ("KEY" : PySem.Str), ("BODY" : PySem.Str)]
def loose4 : List PySem.Str := [("by_track" : PySem.Str), ("moved" : PySem.Str), ("end_of_units" : PySem.Str), ("alike" : PySem.Str), ("change" : PySem.Str), ("changed" : PySem.Str), ("MOST_TICKS" : PySem.Str), ("TIME_BOUND" : PySem.Str), ("SPAN_BOUND" : PySem.Str), ("MOST_TRACKS" : PySem.Str), ("MOST_UNITS_presentation" : PySem.Str), ("MOST_CONTENT" : PySem.Str)]
def loose5 : List PySem.Str := [("MOST_NAME" : PySem.Str), ("MOST_WORD" : PySem.Str), ("MOST_VALUE" : PySem.Str), ("MOST_BODY_presentation" : PySem.Str), ("is_line" : PySem.Str), ("is_word" : PySem.Str), ("is_row" : PySem.Str), ("are_units" : PySem.Str), ("step_size" : PySem.Str), ("are_tags" : PySem.Str), ("is_presentation" : PySem.Str), ("end_of" : PySem.Str)]
def loose6 : List PySem.Str := [("BOUND" : PySem.Str), ("MOST_BYTES" : PySem.Str), ("put_steps" : PySem.Str), ("get_steps" : PySem.Str), ("FULL" : PySem.Str), ("POLYNOMIAL" : PySem.Str), ("checksum" : PySem.Str), ("four_bytes" : PySem.Str), ("number_of" : PySem.Str), ("LETTERS" : PySem.Str), ("VERSION" : PySem.Str), ("MOST_ENTRIES" : PySem.Str)]
def loose7 : List PySem.Str := [("MOST_LEAVES" : PySem.Str), ("CHARS" : PySem.Str), ("char_of" : PySem.Str), ("bytes_of" : PySem.Str), ("text_bytes" : PySem.Str), ("head_of_rows" : PySem.Str), ("tags_body" : PySem.Str), ("index_body" : PySem.Str), ("end_body" : PySem.Str), ("unit_body" : PySem.Str), ("BodyReader" : PySem.Str), ("read_head" : PySem.Str)]
def loose8 : List PySem.Str := [("read_tags" : PySem.Str), ("read_index" : PySem.Str), ("read_end" : PySem.Str), ("read_content" : PySem.Str), ("HEAD" : PySem.Str), ("TAGS" : PySem.Str), ("UNIT" : PySem.Str), ("INDEX" : PySem.Str), ("END" : PySem.Str), ("WORD" : PySem.Str), ("MOST" : PySem.Str), ("MOST_BODY_leaves" : PySem.Str)]
def loose9 : List PySem.Str := [("write_leaf" : PySem.Str), ("raise_fault" : PySem.Str), ("small_byte" : PySem.Str), ("word_at" : PySem.Str), ("steps_at" : PySem.Str), ("read_leaf" : PySem.Str), ("FULL_BLOCK" : PySem.Str), ("stuff" : PySem.Str), ("unstuff" : PySem.Str), ("unstuffed" : PySem.Str), ("leaf_of" : PySem.Str), ("LeafReader" : PySem.Str)]
def loose10 : List PySem.Str := [("checked_leaves" : PySem.Str), ("last_key" : PySem.Str), ("greedy" : PySem.Str), ("greedy_index" : PySem.Str), ("best_index" : PySem.Str), ("write_leaves" : PySem.Str), ("LeafWriter" : PySem.Str), ("in_times" : PySem.Str), ("written" : PySem.Str), ("file_from" : PySem.Str), ("with_bodies" : PySem.Str), ("write" : PySem.Str)]
def loose11 : List PySem.Str := [("TIME_LIMIT" : PySem.Str), ("MOST_UNITS_joining" : PySem.Str), ("MOST_BODY_joining" : PySem.Str), ("check_alike" : PySem.Str), ("check_length" : PySem.Str), ("joined_tags" : PySem.Str), ("join" : PySem.Str), ("taken" : PySem.Str), ("cut" : PySem.Str), ("shown" : PySem.Str), ("whole_show" : PySem.Str), ("copied" : PySem.Str)]
def loose12 : List PySem.Str := [("Reader" : PySem.Str), ("read" : PySem.Str), ("_law_draws" : PySem.Str), ("_law_at" : PySem.Str), ("_law_is_integer" : PySem.Str), ("_law_is_row" : PySem.Str), ("_law_mix" : PySem.Str), ("_law_content" : PySem.Str), ("_law_units" : PySem.Str), ("_law_tags" : PySem.Str), ("_law_presentation" : PySem.Str)]
def loose : List PySem.Str := loose0 ++ loose1 ++ loose2 ++ loose3 ++ loose4 ++ loose5 ++ loose6 ++ loose7 ++ loose8 ++ loose9 ++ loose10 ++ loose11 ++ loose12

def frQ (s : SharedT) : Frag := He.frG (HandSHeadRun.getT s) (asS (HandSHeadRun.getT s))
abbrev endO (w : World) (os : OsState) : Option SharedT := (HandSHeadRun.goF (stQ w) 11 annT 6000 (stE w os) (restOf (bodyT.drop 43) envT cT0 (Sp.ps 40) [topFrame z4]))
theorem run_a (w : World) (os : OsState) : (endO w os).map (fun s => HandSHeadRun.looksF P0 (boot_heap w.params) s.abs) = some true := by kernel_rfl
theorem run_e (w : World) (os : OsState) : (endO w os).map (fun s => (fa.take 120).all fun f => f.ok (frQ s)) = some true := by kernel_rfl
theorem run_b (w : World) (os : OsState) : (endO w os).map (fun s => HandSHeadRun.seenQ qv loose (importedModules P0.main.body) (fun s => xlAt qv [] s && recOk R.toRowW.records s) s.abs) = some (openGood qv loose) := by kernel_rfl
theorem run_c (w : World) (os : OsState) : (endO w os).map (fun s => ((fa.drop 120).all fun f => f.ok (frQ s), He.tupB (frQ s) "MOST" mostV)) = some (true, true) := by kernel_rfl
theorem run_f (w : World) (os : OsState) : (endO w os).map (fun s => fn.map fun d => He.fnW (frQ s) d.at_) = some (fn.map He.DefD.val) := by kernel_rfl
theorem run_d (w : World) (os : OsState) : (endO w os).map (fun s => fn.all fun d => d.ok (frQ s)) = some true := by kernel_rfl
end Sp
end
noncomputable section
namespace Sp
open PySem PySem.W PySem.Calls PyProof.Rows HandSHeadRun
/-! ### the kernel's runs -/
theorem run_pre (w : World) (os : OsState) : (bootS w os).bind (fun s => goG (stQ w) 11 annT 12 s (topStub P0)) = some (stP w os, ⟨denQ tabQ cT0, cT0, z4, [topFrame z4]⟩) := by kernel_rfl
theorem run_block (w : World) (os : OsState) : segF (stQ w) 11 annT 2 (stP w os) (blockOf bodyT envT cT0 z4 [topFrame z4]) = some (.next, stP w os, cT0, z4) := by kernel_rfl
theorem run_0 (w : World) (os : OsState) : segF (stQ w) 11 annT 300 (stP w os) (piecesOf (bodyT.take 3) envT cT0 z4 [topFrame z4]) = some (.next, stS 0 w os, cT0, ps 0) := by kernel_rfl
theorem run_1 (w : World) (os : OsState) : segF (stQ w) 11 annT 2200 (stS 0 w os) (piecesOf ((bodyT.drop 3).take 10) envT cT0 (ps 0) [topFrame z4]) = some (.next, stS 10 w os, cT0, ps 10) := by kernel_rfl
theorem run_2 (w : World) (os : OsState) : segF (stQ w) 11 annT 2200 (stS 10 w os) (piecesOf ((bodyT.drop 13).take 10) envT cT0 (ps 10) [topFrame z4]) = some (.next, stS 20 w os, cT0, ps 20) := by kernel_rfl
theorem run_3 (w : World) (os : OsState) : segF (stQ w) 11 annT 2200 (stS 20 w os) (piecesOf ((bodyT.drop 23).take 10) envT cT0 (ps 20) [topFrame z4]) = some (.next, stS 30 w os, cT0, ps 30) := by kernel_rfl
theorem run_4 (w : World) (os : OsState) : segF (stQ w) 11 annT 2200 (stS 30 w os) (piecesOf ((bodyT.drop 33).take 10) envT cT0 (ps 30) [topFrame z4]) = some (.next, stE w os, cT0, ps 40) := by kernel_rfl
end Sp
end
namespace Sp
open PySem PySem.W PySem.Calls PyProof.Rows HandSHeadRun
theorem body_cut : bodyT = bodyT.take 3 ++ ((bodyT.drop 3).take 10 ++ ((bodyT.drop 13).take 10 ++ ((bodyT.drop 23).take 10 ++ ((bodyT.drop 33).take 10 ++ bodyT.drop 43)))) := by
  have e : ∀ (l : List Stmt) (i j : Nat), l.drop i = (l.drop i).take j ++ l.drop (i + j) := fun l i j => by
    rw [← List.drop_drop, List.take_append_drop]
  have e0 := e bodyT 0 3
  have e1 := e bodyT 3 10
  have e2 := e bodyT 13 10
  have e3 := e bodyT 23 10
  have e4 := e bodyT 33 10
  simp only [List.drop_zero, Nat.zero_add, Nat.reduceAdd] at e0 e1 e2 e3 e4
  rw [← e4, ← e3, ← e2, ← e1, ← e0]
theorem top_run {w : World} {os : OsState} {s : SharedT} (h : goF (stQ w) 11 annT 6000 (stE w os) (restOf (bodyT.drop 43) envT cT0 (Sp.ps 40) [topFrame z4]) = some s) :
    topRun treeTable P0 w 11 annT (12 + (2 + (300 + (2200 + (2200 + (2200 + (2200 + 6000))))))) ⟨boot_heap w.params, #[], boot_drawn, boot_toks, os⟩ (topStub P0) = some s.abs := by
  rw [← stQ_eq] at h
  have k := goF_ok h
  have sg : ∀ {m : Nat} {s s' : SharedT} {t : Thread} {p : Pos}, segF (stQ w) 11 annT m s t = some (.next, s', cT0, p) → segRun treeTable P0 w 11 annT 1 m s.abs t = some (.next, s'.abs, cT0, p) := fun z => by
    rw [← stQ_eq] at z
    exact segRun_of (segF_ok z)
  obtain ⟨s0, b0, b1⟩ := Option.bind_eq_some_iff.mp (run_pre w os)
  rw [← stQ_eq, ← denQ_eq, ← tabQ_eq] at b1
  have b2 := goG_ok b1
  rw [bootS_ok b0] at b2
  refine go_top b2 (piece_block (b := bodyT) (env := envT) (sg (run_block w os)) ?_)
  rw [body_cut]
  exact piece_app (sg (run_0 w os)) (piece_app (sg (run_1 w os)) (piece_app (sg (run_2 w os)) (piece_app (sg (run_3 w os)) (piece_app (sg (run_4 w os)) k))))
theorem boot_sz (P : Params) : (boot_heap P).objs.size = 11 := by kernel_rfl
theorem boot_an (P : Params) : (boot_heap P).nsMap mainGlobals "__annotations__" = annT := by kernel_rfl
def topN : Nat := 12 + (2 + (300 + (2200 + (2200 + (2200 + (2200 + 6000))))))
/-- the head's equation, from what holds behind the top -/
theorem left_gen {p q : Program} {lo : List PySem.Str} {Xt : Shared → Bool} {α : Type} {Yf : Shared → α} {Ya : World → α} {N n0 : Nat} {ann : Option Value} (op : opening p = plainProg p.main.scope.names) (hN : Nat.ble 600 N = true) (fe : ∀ s, fenceModules? p s = some s)
    (sz : ∀ P, (boot_heap P).objs.size = n0) (an : ∀ P, (boot_heap P).nsMap mainGlobals "__annotations__" = ann)
    (h : ∀ (w : World) (os : OsState), ∃ s : Shared, topRun treeTable p w n0 ann N ⟨boot_heap w.params, #[], boot_drawn, boot_toks, os⟩ (topStub p) = some s ∧ looksF p (boot_heap w.params) s = true ∧
      openSeen q lo (importedModules p.main.body) Xt true s = openGood q lo ∧ Yf s = Ya w) : LeftO p q lo Xt Yf Ya N true := fun w => by
  obtain ⟨⟨hp, gs, dr, tk, os⟩, a, b⟩ := Option.map_eq_some_iff.mp (boot_open (p := p) (N := N) op hN fe w)
  have b' : hp = boot_heap w.params ∧ gs = #[] ∧ dr = boot_drawn ∧ tk = boot_toks := by simpa using b
  obtain ⟨rfl, rfl, rfl, rfl⟩ := b'
  obtain ⟨s, e1, e2, e3, e4⟩ := h w os
  have t : topFrom treeTable p w N ⟨boot_heap w.params, #[], boot_drawn, boot_toks, os⟩ = some s := by
    unfold topFrom
    have z : ((boot_heap w.params).isNs mainGlobals && (#[] : Array GenState).size == 0) = true := by
      rw [HandSHeadRun.boot_ns]
      rfl
    dsimp only
    rw [z, sz, an]
    dsimp only
    rw [e1]
    unfold looksF at e2
    show (match staticsOk (importedModules p.main.body) (boot_heap w.params) s.heap && namesBound p s.heap && gensDone s && laidKept (boot_heap w.params) s.heap with
      | true => some s
      | false => none) = some s
    rw [e2]
  unfold openEnds
  rw [a]
  show (topFrom treeTable p w N ⟨boot_heap w.params, #[], boot_drawn, boot_toks, os⟩).map _ = _
  rw [t]
  exact congrArg some (Prod.ext e3 e4)
theorem fence0 (s : Shared) : fenceModules? P0 s = some s := by kernel_rfl
theorem open0 : opening P0 = plainProg P0.main.scope.names := by kernel_rfl
end Sp
namespace Sp
open PySem PySem.W PySem.Calls PyProof.Rows
theorem map_ex {α β : Type} {o : Option α} {f : α → β} {b : β} (h : o.map f = some b) : ∃ s, o = some s ∧ f s = b := Option.map_eq_some_iff.mp h
theorem map_two {α β : Type} {o : Option α} {f : α → β} {s : α} {b : β} (e : o = some s) (h : o.map f = some b) : f s = b := by
  rw [e] at h
  exact Option.some.inj h
theorem map_pair {α β γ : Type} {o : Option α} {f : α → β} {g : α → γ} {s : α} {b : β} {c : γ} (e : o = some s) (h : o.map (fun s => (f s, g s)) = some (b, c)) : f s = b ∧ g s = c := by
  rw [e] at h
  have z := Option.some.inj h
  exact ⟨(Prod.mk.inj z).1, (Prod.mk.inj z).2⟩
/-- what the runs tell, over an end that is only a name -/
theorem top_end0 {o : Option SharedT} (w : World) (ra : o.map (fun s => HandSHeadRun.looksF P0 (boot_heap w.params) s.abs) = some true) (re : o.map (fun s => (fa.take 120).all fun f => f.ok (frQ s)) = some true)
    (rb : o.map (fun s => HandSHeadRun.seenQ qv loose (importedModules P0.main.body) (fun s => xlAt qv [] s && recOk R.toRowW.records s) s.abs) = some (openGood qv loose))
    (rc : o.map (fun s => ((fa.drop 120).all fun f => f.ok (frQ s), He.tupB (frQ s) "MOST" mostV)) = some (true, true)) (rf : o.map (fun s => fn.map fun d => He.fnW (frQ s) d.at_) = some (fn.map He.DefD.val))
    (rd : o.map (fun s => fn.all fun d => d.ok (frQ s)) = some true) : ∃ s : SharedT, o = some s ∧ HandSHeadRun.looksF P0 (boot_heap w.params) s.abs = true ∧
    openSeen qv loose (importedModules P0.main.body) (fun s => xlAt qv [] s && recOk R.toRowW.records s) true s.abs = openGood qv loose ∧ hookS.obs s.abs = hookS.val w := by
  obtain ⟨s, e, h1⟩ := map_ex ra
  have h2 := map_two e re
  have hb := map_two e rb
  have hd := map_two e rd
  obtain ⟨h3, h5⟩ := map_pair e rc
  have h6 := map_two e rf
  refine ⟨s, e, h1, ?_, ?_⟩
  · rw [HandSHeadRun.seenQ_eq]
    exact hb
  · rw [← obT_eq]
    have ha : (fa.all fun f => f.ok (frQ s)) = true := by
      rw [← List.take_append_drop 120 fa, List.all_append, h2, h3]
      rfl
    show (He.obsD fa fn (frQ s), He.tupB (frQ s) "MOST" mostV) = valS
    unfold He.obsD
    rw [ha, hd, h5, h6]
    rfl
theorem top_end (w : World) (os : OsState) : ∃ s : SharedT, endO w os = some s ∧ HandSHeadRun.looksF P0 (boot_heap w.params) s.abs = true ∧
    openSeen qv loose (importedModules P0.main.body) (fun s => xlAt qv [] s && recOk R.toRowW.records s) true s.abs = openGood qv loose ∧ hookS.obs s.abs = hookS.val w :=
  top_end0 w (run_a w os) (run_e w os) (run_b w os) (run_c w os) (run_f w os) (run_d w os)
theorem left_sp : LeftO P0 qv loose (fun s => xlAt qv [] s && recOk R.toRowW.records s) hookS.obs hookS.val (12 + (2 + (300 + (2200 + (2200 + (2200 + (2200 + 6000))))))) true :=
  left_gen open0 (by decide) fence0 boot_sz boot_an fun w os => by
    obtain ⟨s, e1, e2, e3, e4⟩ := top_end w os
    exact ⟨s.abs, top_run e1, e2, e3, e4⟩
theorem holds_of (call : WalkO qv loose (XL qv []) hookS.says R.toRowW (HandSHeadRun.topDef P0 174) [] fun f vs => PySem.call f vs) : PySem.Challenge.rw_spoolbox_k42_whole_cut_out_of_a_join.Holds := by
  w_on; o_law
  refine holds_open (r := R) (q := qv) (loose := loose) (XP := XL qv []) (YP := hookS.says) (d := HandSHeadRun.topDef P0 174) (kwd := []) left_sp hookS.of hookS.keeps (fun s z => xl_of s (Bool.and_eq_true_iff.mp z).1) XL.keeps
    (by kernel_rfl) (by kernel_rfl) (by rfl) (fun s z => recFacts_of (Bool.and_eq_true_iff.mp z).2) (by rfl) (by first | assumption | decide +kernel) (by decide +kernel) ⟨rfl, rfl, rfl, rfl, rfl, by decide +kernel⟩ ?hw call
  case hw => w_witness2
end Sp
namespace Sp
open PySem PySem.Spec PyProof.Rows L2
/-! ### data in a heap -/
mutual
inductive Rp (G : Hp) : V → PyData → Prop
  | non : Rp G .non .none
  | bl (b : Bool) : Rp G (.bl b) (.bool b)
  | int (i : Int) : Rp G (.int i) (.int i)
  | str (x : Str) : Rp G (.str x) (.str x)
  | lst {a : Addr} {xs : List V} {ds : List PyData} : G a = some (.lst xs) → RpL G xs ds → Rp G (.ref a) (.list ds)
  | tup {a : Addr} {xs : List V} {ds : List PyData} : G a = some (.tup xs) → RpL G xs ds → Rp G (.ref a) (.tuple ds)
inductive RpL (G : Hp) : List V → List PyData → Prop
  | nil : RpL G [] []
  | cons {v : V} {vs : List V} {d : PyData} {ds : List PyData} : Rp G v d → RpL G vs ds → RpL G (v :: vs) (d :: ds)
end
mutual
theorem Rp.mono {G G' : Hp} (e : Same G G') : ∀ {v : V} {d : PyData}, Rp G v d → Rp G' v d
  | _, _, .non => .non
  | _, _, .bl b => .bl b
  | _, _, .int i => .int i
  | _, _, .str x => .str x
  | _, _, .lst h r => .lst (e _ _ h) (RpL.mono e r)
  | _, _, .tup h r => .tup (e _ _ h) (RpL.mono e r)
theorem RpL.mono {G G' : Hp} (e : Same G G') : ∀ {vs : List V} {ds : List PyData}, RpL G vs ds → RpL G' vs ds
  | _, _, .nil => .nil
  | _, _, .cons r t => .cons (Rp.mono e r) (RpL.mono e t)
end
mutual
theorem Rp.dp {K : PySem.W.Frag} {G H : Hp} (e : Same G H) : ∀ {v : V} {d : PyData}, Rp G v d → Dp K H v d
  | _, _, .non => .non
  | _, _, .bl b => .bl b
  | _, _, .int i => .int i
  | _, _, .str x => .str x
  | _, _, .lst h r => .lst (.inl (.inl (e _ _ h))) (RpL.dp e r)
  | _, _, .tup h r => .tup (.inl (.inl (e _ _ h))) (RpL.dp e r)
theorem RpL.dp {K : PySem.W.Frag} {G H : Hp} (e : Same G H) : ∀ {vs : List V} {ds : List PyData}, RpL G vs ds → DpAll K H vs ds
  | _, _, .nil => .nil
  | _, _, .cons r t => .cons (Rp.dp e r) (RpL.dp e t)
end
theorem RpL.len {G : Hp} : ∀ {vs : List V} {ds : List PyData}, RpL G vs ds → vs.length = ds.length
  | _, _, .nil => rfl
  | _, _, .cons _ t => congrArg (· + 1) (RpL.len t)
theorem RpL.get {G : Hp} : ∀ {vs : List V} {ds : List PyData} {i : Nat} {d : PyData}, RpL G vs ds → ds[i]? = some d → ∃ v, vs[i]? = some v ∧ Rp G v d
  | _, _, i, _, .nil, h => by simp at h
  | _, _, 0, _, .cons r _, h => by
    cases h
    exact ⟨_, rfl, r⟩
  | _, _, i + 1, d, .cons _ t, h => RpL.get (i := i) (d := d) t h
theorem RpL.getV {G : Hp} : ∀ {vs : List V} {ds : List PyData} {i : Nat} {v : V}, RpL G vs ds → vs[i]? = some v → ∃ d, ds[i]? = some d ∧ Rp G v d
  | _, _, i, _, .nil, h => by simp at h
  | _, _, 0, _, .cons r _, h => by
    cases h
    exact ⟨_, rfl, r⟩
  | _, _, i + 1, v, .cons _ t, h => RpL.getV (i := i) (v := v) t h
theorem RpL.app {G : Hp} : ∀ {vs ws : List V} {ds es : List PyData}, RpL G vs ds → RpL G ws es → RpL G (vs ++ ws) (ds ++ es)
  | _, _, _, _, .nil, s => s
  | _, _, _, _, .cons r t, s => .cons r (RpL.app t s)
theorem RpL.snoc {G : Hp} {vs : List V} {v : V} {ds : List PyData} {d : PyData} (r : RpL G vs ds) (h : Rp G v d) : RpL G (vs ++ [v]) (ds ++ [d]) := r.app (.cons h .nil)
theorem RpL.drop {G : Hp} : ∀ {vs : List V} {ds : List PyData} (n : Nat), RpL G vs ds → RpL G (vs.drop n) (ds.drop n)
  | _, _, 0, r => r
  | _, _, _ + 1, .nil => .nil
  | _, _, n + 1, .cons _ t => RpL.drop n t
theorem RpL.take {G : Hp} : ∀ {vs : List V} {ds : List PyData} (n : Nat), RpL G vs ds → RpL G (vs.take n) (ds.take n)
  | _, _, 0, _ => .nil
  | _, _, _ + 1, .nil => .nil
  | _, _, n + 1, .cons r t => .cons r (RpL.take n t)
theorem RpL.ints {G : Hp} : ∀ ns : List Int, RpL G (ns.map V.int) (ns.map PyData.int)
  | [] => .nil
  | n :: ns => .cons (.int n) (RpL.ints ns)
theorem RpL.ints_inv {G : Hp} : ∀ {ns : List Int} {vs : List V}, RpL G vs (ns.map PyData.int) → vs = ns.map V.int
  | [], _, .nil => rfl
  | n :: ns, _, .cons r t => by
    cases r
    rw [RpL.ints_inv t]
    rfl
theorem RpL.bls {G : Hp} : ∀ ns : List Bool, RpL G (ns.map V.bl) (ns.map PyData.bool)
  | [] => .nil
  | n :: ns => .cons (.bl n) (RpL.bls ns)
theorem RpL.bls_inv {G : Hp} : ∀ {ns : List Bool} {vs : List V}, RpL G vs (ns.map PyData.bool) → vs = ns.map V.bl
  | [], _, .nil => rfl
  | n :: ns, _, .cons r t => by
    cases r
    rw [RpL.bls_inv t]
    rfl
theorem RpL.strs_inv {G : Hp} : ∀ {ns : List Str} {vs : List V}, RpL G vs (ns.map PyData.str) → vs = ns.map V.str
  | [], _, .nil => rfl
  | n :: ns, _, .cons r t => by
    cases r
    rw [RpL.strs_inv t]
    rfl
/-- a list of ints -/
abbrev IntsD (ns : List Int) : PyData := .list (ns.map PyData.int)
theorem Rp.ints {G : Hp} {v : V} {ns : List Int} (h : Rp G v (IntsD ns)) : ∃ a, v = .ref a ∧ G a = some (.lst (ns.map V.int)) := by
  cases h with
  | lst e r => exact ⟨_, rfl, by rw [e, RpL.ints_inv r]⟩
theorem rp_ints {G : Hp} {a : Addr} {ns : List Int} (h : G a = some (.lst (ns.map V.int))) : Rp G (.ref a) (IntsD ns) := .lst h (RpL.ints ns)
theorem Rp.list {G : Hp} {v : V} {ds : List PyData} (h : Rp G v (.list ds)) : ∃ a vs, v = .ref a ∧ G a = some (.lst vs) ∧ RpL G vs ds := by
  cases h with
  | lst e r => exact ⟨_, _, rfl, e, r⟩
theorem Rp.tuple {G : Hp} {v : V} {ds : List PyData} (h : Rp G v (.tuple ds)) : ∃ a vs, v = .ref a ∧ G a = some (.tup vs) ∧ RpL G vs ds := by
  cases h with
  | tup e r => exact ⟨_, _, rfl, e, r⟩
/-! ### what a step does: G what stands still, H all that is tracked; M what may change -/
structure Adv (M : Addr → Prop) (G H G' H' : Hp) : Prop where
  gg : Same G G'
  gh : Same G' H'
  kp : ∀ b o, ¬ M b → H b = some o → H' b = some o
  nw : ∀ b, G b = none → H b ≠ none → G' b = none
  dm : ∀ b, H b ≠ none → H' b ≠ none
abbrev No : Addr → Prop := fun _ => False
abbrev Adv0 : Hp → Hp → Hp → Hp → Prop := Adv No
section
variable {M M' : Addr → Prop} {G0 H0 G H G' H' : Hp} {p o : Addr} {u x : HO}
theorem Adv.refl (h : Same G H) : Adv M G H G H := ⟨Same.refl G, h, fun _ _ _ e => e, fun _ e _ => e, fun _ e => e⟩
theorem Adv.trans (a : Adv M G0 H0 G H) (b : Adv M' G H G' H') (h : ∀ q, M' q → M q ∨ H0 q = none) : Adv M G0 H0 G' H' where
  gg := a.gg.trans b.gg
  gh := b.gh
  kp := fun q y nm e => b.kp q y (fun m => (h q m).elim nm fun z => by rw [z] at e; cases e) (a.kp q y nm e)
  nw := fun q e n => b.nw q (a.nw q e n) (a.dm q n)
  dm := fun q n => b.dm q (a.dm q n)
theorem Adv.call (a : Adv M G0 H0 G H) (b : Adv0 G H G' H') : Adv M G0 H0 G' H' := a.trans b fun _ z => z.elim
theorem Adv.mono (a : Adv M G0 H0 G H) (h : ∀ q, M q → M' q) : Adv M' G0 H0 G H := ⟨a.gg, a.gh, fun b y n e => a.kp b y (fun m => n (h b m)) e, a.nw, a.dm⟩
theorem Adv.fresh (a : Adv M G0 H0 G H) (h : H p = none) : H0 p = none := by
  cases e : H0 p with
  | none => rfl
  | some y => exact absurd h (a.dm p (by rw [e]; exact fun z => nomatch z))
theorem Adv.freshG (a : Adv M G0 H0 G H) (h : H p = none) : G p = none := a.gh.free h
/-- a new object that stands still from now on -/
theorem Adv.frz (a : Adv M G0 H0 G H) (h : H p = none) : Adv M G0 H0 (upd G p u) (upd H p u) where
  gg := fun b y e => by
    rw [upd_ne (ne_of_none e (a.gg.free (a.freshG h)))]
    exact a.gg b y e
  gh := fun b y e => by
    by_cases hb : b = p
    · subst hb
      rw [upd_same] at e ⊢
      exact e
    · rw [upd_ne hb] at e ⊢
      exact a.gh b y e
  kp := fun b y n e => by
    rw [upd_ne (ne_of_none e (a.fresh h))]
    exact a.kp b y n e
  nw := fun b e n => by
    have hb : b ≠ p := fun z => n (by rw [z]; exact a.fresh h)
    rw [upd_ne hb]
    exact a.nw b e n
  dm := fun b n => by
    by_cases hb : b = p
    · rw [hb, upd_same]
      exact fun z => nomatch z
    · rw [upd_ne hb]
      exact a.dm b n
/-- a new object that may change -/
theorem Adv.new (a : Adv M G0 H0 G H) (h : H p = none) : Adv M G0 H0 G (upd H p u) where
  gg := a.gg
  gh := fun b y e => by
    rw [upd_ne (ne_of_none e (a.freshG h))]
    exact a.gh b y e
  kp := fun b y n e => by
    rw [upd_ne (ne_of_none e (a.fresh h))]
    exact a.kp b y n e
  nw := a.nw
  dm := fun b n => by
    by_cases hb : b = p
    · rw [hb, upd_same]
      exact fun z => nomatch z
    · rw [upd_ne hb]
      exact a.dm b n
/-- an object that may change is changed -/
theorem Adv.wr (a : Adv M G0 H0 G H) (g : G o = none) (h : M o ∨ H0 o = none) : Adv M G0 H0 G (upd H o u) where
  gg := a.gg
  gh := fun b y e => by
    rw [upd_ne (ne_of_none e g)]
    exact a.gh b y e
  kp := fun b y n e => by
    have hb : b ≠ o := fun z => by
      subst z
      exact h.elim n fun w => by rw [w] at e; cases e
    rw [upd_ne hb]
    exact a.kp b y n e
  nw := a.nw
  dm := fun b n => by
    by_cases hb : b = o
    · rw [hb, upd_same]
      exact fun z => nomatch z
    · rw [upd_ne hb]
      exact a.dm b n
/-- .. stands still from now on -/
theorem Adv.still (a : Adv M G0 H0 G H) (f : H0 o = none) (h : H o = some u) (g : G o = none) : Adv M G0 H0 (upd G o u) H where
  gg := fun b y e => by
    rw [upd_ne (ne_of_none e (a.gg.free g))]
    exact a.gg b y e
  gh := fun b y e => by
    by_cases hb : b = o
    · subst hb
      rw [upd_same] at e
      rw [h]
      exact e
    · rw [upd_ne hb] at e
      exact a.gh b y e
  kp := a.kp
  nw := fun b e n => by
    have hb : b ≠ o := fun z => n (by rw [z]; exact f)
    rw [upd_ne hb]
    exact a.nw b e n
  dm := a.dm
theorem same_new (h : H p = none) : Same H (upd H p u) := fun b y e => by
  rw [upd_ne (ne_of_none e h)]
  exact e
end
/-- what may change: at o stands x -/
structure Mt (H0 G H : Hp) (o : Addr) (x : HO) : Prop where
  f : H0 o = none
  g : G o = none
  h : H o = some x
section
variable {M M' : Addr → Prop} {G0 H0 G H G' H' : Hp} {p o o' : Addr} {u x y : HO}
theorem Mt.call (m : Mt H0 G H o x) (a : Adv0 G H G' H') : Mt H0 G' H' o x := ⟨m.f, a.nw o m.g (by rw [m.h]; exact fun z => nomatch z), a.kp o x (fun z => z) m.h⟩
theorem Mt.callM (m : Mt H0 G H o x) (a : Adv M G H G' H') (n : ¬ M o) : Mt H0 G' H' o x := ⟨m.f, a.nw o m.g (by rw [m.h]; exact fun z => nomatch z), a.kp o x n m.h⟩
theorem Mt.wr (m : Mt H0 G H o x) : Mt H0 G (upd H o y) o y := ⟨m.f, m.g, upd_same⟩
theorem Mt.oth (m : Mt H0 G H o x) (n : o ≠ p) : Mt H0 G (upd H p y) o x := ⟨m.f, m.g, by rw [upd_ne n]; exact m.h⟩
theorem Mt.frz (m : Mt H0 G H o x) (h : H p = none) : Mt H0 (upd G p u) (upd H p u) o x := by
  have n : o ≠ p := ne_of_none m.h h
  exact ⟨m.f, by rw [upd_ne n]; exact m.g, by rw [upd_ne n]; exact m.h⟩
theorem Mt.new (m : Mt H0 G H o x) (h : H p = none) : Mt H0 G (upd H p u) o x := m.oth (ne_of_none m.h h)
theorem Mt.mk_new (a : Adv M G0 H0 G H) (h : H p = none) : Mt H0 G (upd H p u) p u := ⟨a.fresh h, a.freshG h, upd_same⟩
theorem Mt.as (m : Mt H0 G H o x) (e : x = y) : Mt H0 G H o y := ⟨m.f, m.g, by rw [m.h, e]⟩
theorem Mt.ne (m : Mt H0 G H o x) (m' : Mt H0 G H o' y) (n : x ≠ y) : o ≠ o' := ne_of m.h m'.h n
theorem Mt.wrA (m : Mt H0 G H o x) (a : Adv M G0 H0 G H) : Adv M G0 H0 G (upd H o y) := a.wr m.g (.inr m.f)
end
/-- what a def that changes nothing that stood promises of its answer -/
def Post (G H : Hp) (Q : VK) (P : V → Hp → Prop) : Prop := ∀ v G' H', Adv0 G H G' H' → P v G' → Q v H'
/-! ### globals -/
section
variable {X : Cx} {x : Str} {pos : Pos}
theorem pe_gi {i : Int} (hg : Gl X x) (h : ∃ t, X.mg x = some (.int i t)) (hd : (x == ("__debug__" : Str)) = false := by decide) : PE X (.Name x pos) (tC (.int i)) := by
  obtain ⟨t, e⟩ := h
  exact pe_glob hg e ⟨t, rfl⟩ hd
theorem pe_gs {s : Str} (hg : Gl X x) (h : ∃ t, X.mg x = some (.str s t)) (hd : (x == ("__debug__" : Str)) = false := by decide) : PE X (.Name x pos) (tC (.str s)) := by
  obtain ⟨t, e⟩ := h
  exact pe_glob hg e ⟨t, rfl⟩ hd
end
/-! ### numbers -/
theorem line_le {n : Nat} (h : n ≤ 16777216) : n ≤ sizeLine := by
  rw [sizeLine_eq]
  exact h
theorem line_lt {n : Nat} (h : n < 16777216) : n < sizeLine := by
  rw [sizeLine_eq]
  exact h
theorem cut_nat {xs : List V} {i j : Nat} (h1 : i ≤ j) (h2 : j ≤ xs.length) : cutV xs (some (i : Int)) (some (j : Int)) = (xs.drop i).take (j - i) := by
  unfold cutV
  rw [HT.sIx_nat, HT.sIx_nat, Nat.min_eq_left h2, Nat.min_eq_left (Nat.le_trans h1 h2)]
theorem cut_hi {xs : List V} {j : Nat} (h2 : j ≤ xs.length) : cutV xs none (some (j : Int)) = xs.take j := by
  unfold cutV
  rw [HT.sIx_nat, HT.sIx_none, Nat.min_eq_left h2]
  rfl
theorem cut_lo {xs : List V} {i : Nat} (h1 : i ≤ xs.length) : cutV xs (some (i : Int)) none = xs.drop i := by
  unfold cutV
  rw [HT.sIx_nat, HT.sIx_none, Nat.min_eq_left h1]
  exact List.take_of_length_le (by rw [List.length_drop]; exact Nat.le_refl _)
/-! ### comprehensions -/
theorem Adv.l {M : Addr → Prop} {G0 H0 G H : Hp} {K : PySem.W.Frag} {a : Addr} {xs : List V} (A : Adv M G0 H0 G H) (e : G0 a = some (.lst xs)) : SqL K H a xs := .inl (.inl (A.gh _ _ (A.gg _ _ e)))
theorem Adv.t {M : Addr → Prop} {G0 H0 G H : Hp} {K : PySem.W.Frag} {a : Addr} {xs : List V} (A : Adv M G0 H0 G H) (e : G0 a = some (.tup xs)) : SqT K H a xs := .inl (.inl (A.gh _ _ (A.gg _ _ e)))
theorem ql {G H : Hp} {K : PySem.W.Frag} {a : Addr} {xs : List V} (s : Same G H) (e : G a = some (.lst xs)) : SqL K H a xs := .inl (.inl (s _ _ e))
theorem qt {G H : Hp} {K : PySem.W.Frag} {a : Addr} {xs : List V} (s : Same G H) (e : G a = some (.tup xs)) : SqT K H a xs := .inl (.inl (s _ _ e))
section
variable {K : PySem.W.Frag} {G H : Hp} {σ : L2.St} {g : TG} {tt : TT} {te : TE} {vs : List Nat} {Q : VK}
/-- the answer of a comprehension -/
abbrev PostL (G H : Hp) (Q : VK) (ds : List PyData) : Prop := ∀ D G' H' acc, Adv0 G H G' H' → G' D = some (.lst acc) → RpL G' acc ds → Q (.ref D) H'
theorem lcD {a : Addr} {xs : List V} {ds : List PyData} (f : PyData → Option PyData) (sG : Same G H) (ha : G a = some (.lst xs)) (hr : RpL G xs ds) (hn : ds.length ≤ 100000)
    (hs : ∀ (i : Nat) (x : V) (d : PyData) (G1 H1 : Hp), xs[i]? = some x → ds[i]? = some d → Adv0 G H G1 H1 → ∀ (Qy : VK) (Qn : Hp → Prop),
      (∀ e, f d = some e → ∀ y G2 H2, Adv0 G1 H1 G2 H2 → Rp G2 y e → Qy y H2) → (f d = none → ∀ G2 H2, Adv0 G1 H1 G2 H2 → Qn H2) →
      g x (wipe σ vs) H1 fun σ2 H2 => wipe σ2 vs = wipe σ vs ∧ tt σ2 H2 fun b H3 => if b = true then te σ2 H3 Qy else Qn H3)
    (q : PostL G H Q (ds.filterMap f)) (D : Addr) (hD : H D = none) :
    ∃ W : Nat → Nat → Hp → Prop, (∃ m, W 0 m (upd H D (.lst []))) ∧ ∀ i m H, W i m H →
      ((Itl K a).stop i H ∧ Q (.ref D) H) ∨ ((Itl K a).go i H ∧ ∃ Nx : Hp → Prop, (∀ H', Nx H' → ∃ m', m' < m ∧ W (i + 1) m' H') ∧ ∀ x H', (Itl K a).yld i H x H' → g x (wipe σ vs) H' fun σ2 H2 => wipe σ2 vs = wipe σ vs ∧ tt σ2 H2 fun b H3 =>
        if b = true then te σ2 H3 fun y H4 => ∃ acc, H4 D = some (.lst acc) ∧ acc.length < sizeLine ∧ Nx (upd H4 D (.lst (acc ++ [y]))) else Nx H3) := by
  have a0 : Adv0 G H G H := .refl sG
  have ln := hr.len
  refine lc_list (xs := xs) (Qd := Q (.ref D)) (fun i H1 => ∃ G1 acc, Adv0 G H G1 H1 ∧ Mt H G1 H1 D (.lst acc) ∧ RpL G1 acc ((ds.take i).filterMap f))
    ⟨G, [], a0.new hD, .mk_new a0 hD, .nil⟩ (fun i H1 _ ⟨G1, acc, A, _, _⟩ => A.l ha) (fun i x H1 hx ⟨G1, acc, A, m, r⟩ => ?_) (fun H1 ⟨G1, acc, A, m, r⟩ => ?_)
  · obtain ⟨d, hd, rx⟩ := hr.getV hx
    have lt : i < ds.length := (List.getElem?_eq_some_iff.mp hd).1
    have ht : ds.take (i + 1) = ds.take i ++ [d] := by
      rw [List.take_add_one, hd]
      rfl
    refine hs i x d G1 H1 hx hd A _ _ (fun e he y G2 H2 A2 ry => ?_) (fun he G2 H2 A2 => ?_)
    · have m2 := m.call A2
      have la : acc.length ≤ i := by
        have z := r.len
        have z2 := List.length_filterMap_le f (ds.take i)
        rw [List.length_take] at z2
        omega
      refine ⟨acc, m2.h, line_lt (by omega), G2, acc ++ [y], m2.wrA (A.call A2), m2.wr, ?_⟩
      rw [ht, List.filterMap_append]
      have : [d].filterMap f = [e] := by simp [he]
      rw [this]
      exact (r.mono A2.gg).snoc ry
    · refine ⟨G2, acc, A.call A2, m.call A2, ?_⟩
      rw [ht, List.filterMap_append]
      have : [d].filterMap f = [] := by simp [he]
      rw [this, List.append_nil]
      exact r.mono A2.gg
  · have ht : ds.take xs.length = ds := List.take_of_length_le (by omega)
    rw [ht] at r
    have A2 := A.still m.f m.h m.g
    exact q D _ H1 acc A2 upd_same (r.mono (same_new m.g))
theorem lcR {n : Nat} (f : Nat → PyData) (sG : Same G H) (hn : n ≤ 100000)
    (hs : ∀ (i : Nat) (G1 H1 : Hp), i < n → Adv0 G H G1 H1 → ∀ (Qy : VK), (∀ y G2 H2, Adv0 G1 H1 G2 H2 → Rp G2 y (f i) → Qy y H2) →
      g (.int (0 + (i : Nat))) (wipe σ vs) H1 fun σ2 H2 => wipe σ2 vs = wipe σ vs ∧ te σ2 H2 Qy)
    (q : PostL G H Q ((List.range n).map f)) (D : Addr) (hD : H D = none) :
    ∃ W : Nat → Nat → Hp → Prop, (∃ m, W 0 m (upd H D (.lst []))) ∧ ∀ i m H, W i m H →
      ((Itr 0 n).stop i H ∧ Q (.ref D) H) ∨ ((Itr 0 n).go i H ∧ ∃ Nx : Hp → Prop, (∀ H', Nx H' → ∃ m', m' < m ∧ W (i + 1) m' H') ∧ ∀ x H', (Itr 0 n).yld i H x H' → g x (wipe σ vs) H' fun σ2 H2 => wipe σ2 vs = wipe σ vs ∧ tYes σ2 H2 fun b H3 =>
        if b = true then te σ2 H3 fun y H4 => ∃ acc, H4 D = some (.lst acc) ∧ acc.length < sizeLine ∧ Nx (upd H4 D (.lst (acc ++ [y]))) else Nx H3) := by
  have a0 : Adv0 G H G H := .refl sG
  refine lc_range (lo := 0) (n := n) (Qd := Q (.ref D)) (fun i H1 => ∃ G1 acc, Adv0 G H G1 H1 ∧ Mt H G1 H1 D (.lst acc) ∧ RpL G1 acc ((List.range i).map f))
    ⟨G, [], a0.new hD, .mk_new a0 hD, .nil⟩ (fun i H1 hi ⟨G1, acc, A, m, r⟩ => ?_) (fun H1 ⟨G1, acc, A, m, r⟩ => ?_)
  · refine hs i G1 H1 hi A _ fun y G2 H2 A2 ry => ?_
    have m2 := m.call A2
    have la : acc.length = i := by
      have z := r.len
      rw [List.length_map, List.length_range] at z
      exact z
    refine ⟨acc, m2.h, line_lt (by omega), G2, acc ++ [y], m2.wrA (A.call A2), m2.wr, ?_⟩
    rw [List.range_succ, List.map_append]
    exact (r.mono A2.gg).snoc ry
  · have A2 := A.still m.f m.h m.g
    exact q D _ H1 acc A2 upd_same (r.mono (same_new m.g))
end
theorem bi_len : bootBuiltins "len" = some (.builtin "len") := by decide +kernel
theorem bi_max : bootBuiltins "max" = some (.builtin "max") := by decide +kernel
theorem bi_min : bootBuiltins "min" = some (.builtin "min") := by decide +kernel
theorem bi_ord : bootBuiltins "ord" = some (.builtin "ord") := by decide +kernel
theorem bi_abs : bootBuiltins "abs" = some (.builtin "abs") := by decide +kernel
theorem bi_all : bootBuiltins "all" = some (.builtin "all") := by decide +kernel
theorem bi_sorted : bootBuiltins "sorted" = some (.builtin "sorted") := by decide +kernel
theorem bi_int : bootBuiltins "int" = some (.type "int") := by decide +kernel
theorem bi_list : bootBuiltins "list" = some (.type "list") := by decide +kernel
theorem bi_tuple : bootBuiltins "tuple" = some (.type "tuple") := by decide +kernel
/-! ### tests that are known -/
theorem vt {p : Prop} {d : Decidable p} (h : p) : V.bl (@decide p d) = V.bl true := by
  rw [decide_eq_true h]
theorem vf {p : Prop} {d : Decidable p} (h : ¬ p) : V.bl (@decide p d) = V.bl false := by
  rw [decide_eq_false h]
theorem vnt {p : Prop} {d : Decidable p} (h : ¬ p) : V.bl (!@decide p d) = V.bl true := by
  rw [decide_eq_false h]
  rfl
theorem vnf {p : Prop} {d : Decidable p} (h : p) : V.bl (!@decide p d) = V.bl false := by
  rw [decide_eq_true h]
  rfl
theorem bT {b : Bool} {A B : Prop} (h : b = true) (a : A) : if b = true then A else B := by
  rw [h]
  exact iteT a
theorem bF {b : Bool} {A B : Prop} (h : b = false) (a : B) : if b = true then A else B := by
  rw [h]
  exact iteF a
end Sp
namespace Sp
open PySem PySem.Spec PyProof.Rows L2
section
variable {P : Program} {w : World} {K : PySem.W.Frag} {mg : Str → Option Value} {base : Heap}
/-! ### put_steps -/
def putS (n : Nat) : List Int := if n < 128 then [(n : Int)] else (128 + ((n % 128 : Nat) : Int)) :: putS (n / 128)
termination_by n
decreasing_by omega
def sp_put_steps : Sp := fun vs H Q _ => ∃ (G : Hp) (n : Nat), Same G H ∧ vs = [.int n] ∧ n < 2 ^ 40 ∧ Post G H Q fun v G' => Rp G' v (IntsD (putS n))
theorem putS_small {n : Nat} (h : n < 128) : putS n = [(n : Int)] := by
  rw [putS, if_pos h]
theorem putS_big {n : Nat} (h : ¬ n < 128) : putS n = (128 + ((n % 128 : Nat) : Int)) :: putS (n / 128) := by
  rw [putS, if_neg h]
theorem putS_len (k : Nat) : ∀ n : Nat, n < 128 ^ (k + 1) → (putS n).length ≤ k + 1 := by
  induction k with
  | zero => intro n h; rw [putS_small (by simpa using h)]; exact Nat.le_refl _
  | succ k ih =>
    intro n h
    by_cases c : n < 128
    · rw [putS_small c]; simp
    · rw [putS_big c, List.length_cons]
      have := ih (n / 128) (by rw [Nat.div_lt_iff_lt_mul (by decide)]; rw [Nat.pow_succ] at h; exact h)
      omega
theorem sc_put_steps : FnScope n_put_steps p_put_steps (defScope s_put_steps) := ⟨rfl, rfl, rfl, by decide +kernel, rfl, by decide +kernel, by decide +kernel⟩
/-- the answer is a new list that may change -/
def PostN (G H : Hp) (Q : VK) (xs : List V) : Prop := ∀ o G' H', Adv0 G H G' H' → Mt H G' H' o (.lst xs) → Q (.ref o) H'
theorem PostN.of {G H : Hp} {Q : VK} {ns : List Int} (q : Post G H Q fun v G' => Rp G' v (IntsD ns)) : PostN G H Q (ns.map V.int) := fun o _ _ A m => q _ _ _ (A.still m.f m.h m.g) (rp_ints upd_same)
def sp_put_stepsN : Sp := fun vs H Q _ => ∃ (G : Hp) (n : Nat), Same G H ∧ vs = [.int n] ∧ n < 2 ^ 40 ∧ PostN G H Q ((putS n).map V.int)
theorem ok_put_stepsN (T : Facts K mg) : FnOk P w K mg base CX0 1 (fA K "put_steps") (fD K "put_steps") p_put_steps sp_put_stepsN := by
  refine T.put_steps.F.ok sc_put_steps (fun vs H Q E h => ?_) (fun cdv A outer s H vs Q E hr h => ?_)
  · obtain ⟨G, n, _, rfl, _⟩ := h
    rfl
  · obtain ⟨G, n, sG, rfl, hn, q⟩ := h
    refine ⟨_, PSs.nox (pss_cons (ps_if (pt_not (pt_chain op_le op_lt pe_int (pv 0) (pe_gi rfl T.g_BOUND)))
    pss_never
    pss_nil)
  (pss_cons (ps_set (i := 1) sc_put_steps.nd rfl (.inl rfl) (pe_lst pa_nil))
  (pss_cons (ps_while PassesOwn.never (pt_cmpR op_gt (pv 0) pe_int (nomark _))
    (pss_cons (ps_expr (pe_bm PySem.F.plainAttrs_list PySem.F.slot_list_append PySem.F.type_list_append mt_append (pv 1) (pa_cons (pe_op op_add pe_int (pe_op op_and (pv 0) pe_int)) pa_nil)))
  (pss_one (ps_set (i := 0) sc_put_steps.nd rfl (.inl rfl) (pe_op op_shr (pv 0) pe_int)))))
  (pss_cons (ps_expr (pe_bm PySem.F.plainAttrs_list PySem.F.slot_list_append PySem.F.type_list_append mt_append (pv 1) (pa_cons (pv 0) pa_nil)))
  (pss_one (ps_ret (pv 1))))))), ?_⟩
    -- 0 <= number < BOUND
    refine ⟨_, rfl, 0, n, rfl, rfl, true, vt (by omega), iteT ⟨n, 1099511627776, rfl, rfl, true, vt (by omega), iteF ?_⟩⟩
    -- out = []
    refine ⟨Nat.zero_le _, fun o no => ?_⟩
    have a0 : Adv0 G H G H := .refl sG
    refine ⟨fun m σ H1 => ∃ acc : List Int, σ = [some (.int (m : Int)), some (.ref o)] ∧ Adv0 G H G H1 ∧ Mt H G H1 o (.lst (acc.map V.int)) ∧ acc ++ putS m = putS n ∧ acc.length ≤ 1000,
      ⟨n, [], rfl, a0.new no, .mk_new a0 no, rfl, by decide⟩, ?_⟩
    rintro m σ H1 ⟨acc, rfl, a1, mo, e, le⟩
    by_cases hm : m < 128
    rotate_left
    · refine ⟨_, rfl, m, 127, rfl, rfl, true, vt (by omega), iteT ?_⟩
      -- out.append(128 + (number & 127)); number = number >> 7
      refine ⟨_, fun σ' H' z => z, ?_⟩
      refine ⟨.ref o, rfl, .inl ⟨rfl, _, SqL.of mo.h⟩, _, rfl, m, 127, rfl, rfl, 128, _, rfl, rfl, o, _, _, rfl, rfl, mo.h, by rw [List.length_map]; exact small1000 le, ?_⟩
      refine ⟨_, rfl, m, 7, rfl, rfl, (show (0 : Int) ≤ 7 by decide), ?_⟩
      have e1 : Builtin.bitAnd (m : Int) 127 = ((m % 128 : Nat) : Int) := PySem.W.kbt_mask (m : Int) 7
      have e2 : (m : Int) / 2 ^ (7 : Int).toNat = ((m / 128 : Nat) : Int) := by
        show (m : Int) / 2 ^ 7 = _
        omega
      refine ⟨m / 128, by omega, acc ++ [128 + ((m % 128 : Nat) : Int)], ?_, mo.wrA a1, ?_, ?_, ?_⟩
      · show [some (V.int ((m : Int) / 2 ^ (7 : Int).toNat)), some (V.ref o)] = _
        rw [e2]
      · rw [e1, List.map_append]
        exact mo.wr
      · rw [putS_big hm] at e
        rw [List.append_assoc]
        exact e
      · have l1 : (acc ++ putS m).length = (putS n).length := by rw [e]
        have l2 := putS_len 5 n (Nat.lt_of_lt_of_le hn (by decide))
        rw [putS_big hm] at l1
        simp only [List.length_append, List.length_cons, List.length_nil] at l1 ⊢
        omega
    · refine ⟨_, rfl, m, 127, rfl, rfl, false, vf (by omega), iteF ?_⟩
      -- out.append(number); return out
      rw [putS_small hm] at e
      refine ⟨.ref o, rfl, .inl ⟨rfl, _, SqL.of mo.h⟩, _, rfl, o, _, _, rfl, rfl, mo.h, by rw [List.length_map]; exact small1000 le, ?_⟩
      refine ⟨.ref o, rfl, ?_⟩
      have m2 : Mt H G (upd H1 o (.lst (acc.map V.int ++ [.int m]))) o _ := mo.wr
      refine q _ _ _ (mo.wrA (y := .lst (acc.map V.int ++ [.int m])) a1) ⟨m2.f, m2.g, ?_⟩
      rw [m2.h, ← e, List.map_append]
      rfl
theorem ok_put_steps (T : Facts K mg) : FnOk P w K mg base CX0 1 (fA K "put_steps") (fD K "put_steps") p_put_steps sp_put_steps := (ok_put_stepsN T).imp fun _ _ _ _ ⟨G, n, h1, h2, h3, q⟩ => ⟨G, n, h1, h2, h3, .of q⟩
end
end Sp
namespace Sp
open PySem PySem.Spec PyProof.Rows L2
section
variable {P : Program} {w : World} {K : PySem.W.Frag} {mg : Str → Option Value} {base : Heap}
/-! ### get_steps -/
def sp_get_steps : Sp := fun vs H Q _ => ∃ (G : Hp) (r : V) (pre post : List Int) (n : Nat), Same G H ∧ vs = [r, .int (pre.length : Int)] ∧ Rp G r (IntsD (pre ++ putS n ++ post)) ∧ n < 2 ^ 40 ∧ pre.length ≤ 100000 ∧
  Post G H Q fun v G' => Rp G' v (.tuple [.int n, .int ((pre.length + (putS n).length : Nat) : Int)])
theorem putS_head (n : Nat) : (putS n)[0]? = some (if n < 128 then (n : Int) else 128 + ((n % 128 : Nat) : Int)) := by
  by_cases c : n < 128
  · rw [putS_small c, if_pos c]; rfl
  · rw [putS_big c, if_neg c]; rfl
theorem sc_get_steps : FnScope n_get_steps p_get_steps (defScope s_get_steps) := ⟨rfl, rfl, rfl, by decide +kernel, rfl, by decide +kernel, by decide +kernel⟩
theorem ok_get_steps (T : Facts K mg) : FnOk P w K mg base CX0 1 (fA K "get_steps") (fD K "get_steps") p_get_steps sp_get_steps := by
  refine T.get_steps.F.ok sc_get_steps (fun vs H Q E h => ?_) (fun cdv A outer s H vs Q E hr h => ?_)
  · obtain ⟨G, r, pre, post, n, _, rfl, _⟩ := h
    rfl
  · obtain ⟨G, r, pre, post, n, sG, rfl, hr0, hn, hp, q⟩ := h
    obtain ⟨a, rfl, ha⟩ := hr0.ints
    refine ⟨_, PSs.nox (pss_cons (ps_set (i := 2) sc_get_steps.nd rfl (.inl rfl) pe_int)
  (pss_cons (ps_for PassesOwn.never rfl (pi_range1 rfl T.z_range (pa_cons (pe_gi rfl T.g_MOST_BYTES) pa_nil)) (pg_name (i := 3) sc_get_steps.nd rfl (.inl rfl))
    (pss_cons (ps_if (pt_cmpR op_ge (pe_op op_add (pv 1) (pv 3)) (pe_callB call_len_seq rfl T.z_len bi_len (pa_cons (pv 0) pa_nil)) (nomark _))
    pss_never
    pss_nil)
  (pss_cons (ps_set (i := 4) sc_get_steps.nd rfl (.inl rfl) (pe_ix ix_list (pv 0) (pe_op op_add (pv 1) (pv 3)) (fun _ _ => rfl)))
  (pss_cons (ps_aug (i := 2) sc_get_steps.nd rfl (.inl rfl) (pe_op op_shl (pe_op op_and (pv 4) pe_int) (pe_op op_mul pe_int (pv 3))) ip_add)
  (pss_one (ps_if (pt_cmpR op_lt (pv 4) pe_int (nomark _))
    (pss_cons (ps_if (pt_cmpR op_ge (pv 2) (pe_gi rfl T.g_BOUND) (nomark _))
    pss_never
    pss_nil)
  (pss_cons (ps_if (PW.pt (pw_and (pt_cmpR op_eq (pv 4) pe_int (nomark _)) (pw_and1 (pt_cmpR op_gt (pv 3) pe_int (nomark _)))))
    pss_never
    pss_nil)
  (pss_one (ps_ret (pe_tup (pa_cons (pv 2) (pa_cons (pe_op op_add (pe_op op_add (pv 1) (pv 3)) pe_int) pa_nil)))))))
    pss_nil))))))
  (pss_one ps_never))), ?_⟩
    refine ⟨6, rfl, by decide, by decide, for_range (lo := 0) (n := 6) (fun i σ H1 => ∃ (num m : Nat) (x3 x4 : Option V), σ = [some (.ref a), some (.int pre.length), some (.int num), x3, x4] ∧ H1 = H ∧
      n = num + m * 128 ^ i ∧ m < 128 ^ (6 - i) ∧ (i = 0 ∨ 0 < m) ∧ (∃ done, pre ++ putS n ++ post = done ++ putS m ++ post ∧ done.length = pre.length + i) ∧ num < 128 ^ i) ?_ ?_ ?_⟩
    · exact ⟨0, n, none, none, rfl, rfl, by omega, Nat.lt_of_lt_of_le hn (by decide), .inl rfl, ⟨pre, rfl, rfl⟩, by decide⟩
    · rintro i σ H1 hi ⟨num, m, x3, x4, rfl, rfl, e, hm, h0, ⟨done, ed, ld⟩, hnum⟩
      have hq : SqL K H1 a ((pre ++ putS n ++ post).map V.int) := ql sG ha
      have hl : ((pre ++ putS n ++ post).map V.int).length = done.length + (putS m).length + post.length := by
        rw [ed]; simp only [List.length_map, List.length_append]
      have hl1 : 0 < (putS m).length := by
        have := putS_head m
        cases hc : putS m with
        | nil => rw [hc] at this; cases this
        | cons x r => simp
      have hx : atI ((pre ++ putS n ++ post).map V.int) ((pre.length : Int) + (0 + (i : Nat))) = some (.int (if m < 128 then (m : Int) else 128 + ((m % 128 : Nat) : Int))) := by
        have e1 : (pre.length : Int) + (0 + (i : Nat)) = ((done.length : Nat) : Int) := by rw [ld]; omega
        rw [e1]
        refine atI_nat ?_
        rw [ed, List.getElem?_map, List.append_assoc, List.getElem?_append_right (Nat.le_refl _), Nat.sub_self, List.getElem?_append_left hl1, putS_head m]
        rfl
      -- at + k >= len(row)
      refine ⟨_, rfl, _, rfl, _, _, rfl, rfl, .ref a, rfl, a, _, rfl, .inl hq, _, _, rfl, rfl, false, vf (by rw [hl]; omega), iteF ?_⟩
      -- byte = row[at + k]
      refine ⟨.ref a, rfl, _, rfl, _, rfl, _, _, rfl, rfl, a, _, _, _, rfl, rfl, hq, hx, ?_⟩
      have hmod : ∀ b : Int, b = (if m < 128 then (m : Int) else 128 + ((m % 128 : Nat) : Int)) → Builtin.bitAnd b 127 = ((m % 128 : Nat) : Int) := fun b hb => by
        rw [show Builtin.bitAnd b 127 = b % 2 ^ 7 from PySem.W.kbt_mask b 7, hb]
        split <;> omega
      -- number += (byte & 127) << 7 * k
      have e7 : (7 * (0 + (i : Nat)) : Int) = ((7 * i : Nat) : Int) := by omega
      have eb := hmod _ rfl
      refine ⟨_, rfl, _, rfl, _, _, rfl, rfl, _, rfl, _, _, rfl, rfl, .inl ⟨by decide, by decide⟩, _, _, rfl, rfl, ⟨by omega, by omega, by rw [eb]; omega⟩, _, _, rfl, rfl, ?_⟩
      have ev : (num : Int) + Builtin.bitAnd (if m < 128 then (m : Int) else 128 + ((m % 128 : Nat) : Int)) 127 * 2 ^ (7 * (0 + ((i : Nat) : Int))).toNat = ((num + m % 128 * 128 ^ i : Nat) : Int) := by
        have e2 : (2 : Int) ^ (7 * i) = ((128 ^ i : Nat) : Int) := by
          rw [show (128 : Nat) = 2 ^ 7 from rfl, ← Nat.pow_mul, Int.natCast_pow]
          rfl
        rw [eb, e7, Int.toNat_natCast, e2]
        omega
      have hp1 : (128 : Nat) ^ (i + 1) = 128 ^ i * 128 := Nat.pow_succ ..
      have hnum2 : num + m % 128 * 128 ^ i < 128 ^ (i + 1) := by
        have : m % 128 * 128 ^ i ≤ 127 * 128 ^ i := Nat.mul_le_mul_right _ (by omega)
        rw [hp1]
        omega
      have hsplit : n = num + m % 128 * 128 ^ i + m / 128 * 128 ^ (i + 1) := by
        have h1 : m * 128 ^ i = (m % 128 + 128 * (m / 128)) * 128 ^ i := by rw [Nat.mod_add_div]
        have h2 : (m % 128 + 128 * (m / 128)) * 128 ^ i = m % 128 * 128 ^ i + m / 128 * (128 ^ i * 128) := by
          rw [Nat.add_mul]
          congr 1
          rw [Nat.mul_comm 128, Nat.mul_assoc, Nat.mul_comm 128]
        rw [hp1]
        omega
      by_cases c : m < 128
      · -- the last byte
        have em : m / 128 = 0 := by omega
        have en : num + m % 128 * 128 ^ i = n := by rw [hsplit, em]; simp
        refine ⟨_, rfl, _, _, rfl, rfl, true, vt (by rw [if_pos c]; omega), iteT ?_⟩
        refine ⟨_, rfl, _, _, rfl, rfl, false, vf ?_, iteF ?_⟩
        · have ev' := ev
          intro z
          have z2 : (1099511627776 : Int) ≤ ((num + m % 128 * 128 ^ i : Nat) : Int) := by
            rw [← ev']
            exact z
          rw [en] at z2
          omega
        have hby : (if m < 128 then (m : Int) else 128 + ((m % 128 : Nat) : Int)) = m := if_pos c
        have fin : ∀ H2, H2 = H1 → ∀ p, H2 p = none → Q (.ref p) (upd H2 p (.tup [.int ((num : Int) + Builtin.bitAnd (if m < 128 then (m : Int) else 128 + ((m % 128 : Nat) : Int)) 127 * 2 ^ (7 * (0 + ((i : Nat) : Int))).toNat), .int ((pre.length : Int) + (0 + ((i : Nat) : Int)) + 1)])) := by
          rintro H2 rfl p hp
          refine q _ _ _ ((Adv.refl sG).frz hp) (.tup upd_same ?_)
          rw [ev, en]
          have le : (pre.length : Int) + (0 + ((i : Nat) : Int)) + 1 = ((pre.length + (putS n).length : Nat) : Int) := by
            have := congrArg List.length ed
            simp only [List.length_append] at this
            rw [putS_small c] at this
            simp only [List.length_cons, List.length_nil] at this
            omega
          rw [le]
          exact .cons (.int _) (.cons (.int _) .nil)
        by_cases z : m = 0
        · have hi0 : i = 0 := by omega
          refine ⟨_, rfl, rfl, true, vt (congrArg V.int (by rw [hby]; omega)), iteT ?_⟩
          refine ⟨_, rfl, _, _, rfl, rfl, false, vf (by omega), iteF ?_⟩
          exact ⟨_, rfl, _, rfl, _, rfl, _, _, rfl, rfl, _, _, rfl, rfl, by show 2 ≤ sizeLine; decide, fin _ rfl⟩
        · refine ⟨_, rfl, rfl, false, vf (fun y => z (by have := V.int.inj y; rw [hby] at this; omega)), iteF ?_⟩
          exact ⟨_, rfl, _, rfl, _, rfl, _, _, rfl, rfl, _, _, rfl, rfl, by show 2 ≤ sizeLine; decide, fin _ rfl⟩
      · refine ⟨_, rfl, _, _, rfl, rfl, false, vf (by rw [if_neg c]; omega), iteF ?_⟩
        refine ⟨num + m % 128 * 128 ^ i, m / 128, _, _, by rw [← ev]; rfl, rfl, hsplit, ?_, .inr (by omega), ⟨done ++ [128 + ((m % 128 : Nat) : Int)], ?_, by simp [ld]; omega⟩, hnum2⟩
        · rw [Nat.div_lt_iff_lt_mul (by decide), ← Nat.pow_succ]
          refine Nat.lt_of_lt_of_le hm (Nat.pow_le_pow_right (by decide) (by omega))
        · rw [ed, putS_big c]
          simp only [List.append_assoc, List.cons_append, List.nil_append]
    · rintro σ H1 ⟨num, m, x3, x4, rfl, rfl, e, hm, h0, _⟩
      have : m < 1 := hm
      omega
end
end Sp
namespace Sp
open PySem PySem.Spec PyProof.Rows L2
section
variable {P : Program} {w : World} {K : PySem.W.Frag} {mg : Str → Option Value} {base : Heap}
/-! ### checksum -/
def Bys (bs : List Int) : Prop := ∀ b ∈ bs, 0 ≤ b ∧ b < 256
def crcB (r : Nat) : Nat := if r % 2 = 1 then (r / 2) ^^^ 3988292384 else r / 2
def crcN : Nat → Nat → Nat
  | 0, r => r
  | k + 1, r => crcB (crcN k r)
def crcV (r : Nat) (v : Int) : Nat := crcN 8 (r ^^^ v.toNat)
def crc (bs : List Int) : Nat := (bs.foldl crcV 4294967295) ^^^ 4294967295
theorem crcB_lt {r : Nat} (h : r < 2 ^ 32) : crcB r < 2 ^ 32 := by
  unfold crcB
  split
  · exact Nat.xor_lt_two_pow (by omega) (by decide)
  · omega
theorem crcN_lt {r : Nat} (h : r < 2 ^ 32) : ∀ k, crcN k r < 2 ^ 32
  | 0 => h
  | k + 1 => crcB_lt (crcN_lt h k)
theorem crcV_lt {r : Nat} {v : Int} (h : r < 2 ^ 32) (h1 : v < 256) : crcV r v < 2 ^ 32 := crcN_lt (Nat.xor_lt_two_pow h (by omega)) 8
theorem crcF_lt : ∀ (bs : List Int) (r : Nat), r < 2 ^ 32 → Bys bs → bs.foldl crcV r < 2 ^ 32
  | [], r, h, _ => h
  | b :: bs, r, h, hb => crcF_lt bs _ (crcV_lt h (hb b List.mem_cons_self).2) fun x hx => hb x (List.mem_cons_of_mem _ hx)
theorem crc_lt {bs : List Int} (hb : Bys bs) : crc bs < 2 ^ 32 := Nat.xor_lt_two_pow (crcF_lt bs _ (by decide) hb) (by decide)
theorem bx (a b : Nat) : Builtin.bitXor (a : Int) (b : Int) = ((a ^^^ b : Nat) : Int) := by
  rw [Bits.bitXor_pp (by omega) (by omega)]
  rfl
def sp_checksum : Sp := fun vs H Q _ => ∃ (G : Hp) (r : V) (bs : List Int), Same G H ∧ vs = [r] ∧ Rp G r (IntsD bs) ∧ Bys bs ∧ Q (.int (crc bs)) H
theorem sc_checksum : FnScope n_checksum p_checksum (defScope s_checksum) := ⟨rfl, rfl, rfl, by decide +kernel, rfl, by decide +kernel, by decide +kernel⟩
theorem ok_checksum (T : Facts K mg) : FnOk P w K mg base CX0 1 (fA K "checksum") (fD K "checksum") p_checksum sp_checksum := by
  refine T.checksum.F.ok sc_checksum (fun vs H Q E h => ?_) (fun cdv A outer s H vs Q E hr h => ?_)
  · obtain ⟨G, r, bs, _, rfl, _⟩ := h
    rfl
  · obtain ⟨G, r, bs, sG, rfl, hr0, hb, q⟩ := h
    obtain ⟨a, rfl, ha⟩ := hr0.ints
    refine ⟨_, PSs.nox (pss_cons (ps_set (i := 1) sc_checksum.nd rfl (.inl rfl) (pe_gi rfl T.g_FULL))
  (pss_cons (ps_for PassesOwn.never rfl (pi_list (pv 0)) (pg_name (i := 2) sc_checksum.nd rfl (.inl rfl))
    (pss_cons (ps_set (i := 1) sc_checksum.nd rfl (.inl rfl) (pe_op op_xor (pv 1) (pv 2)))
  (pss_one (ps_for PassesOwn.never rfl (pi_range1 rfl T.z_range (pa_cons pe_int pa_nil)) (pg_name (i := 3) sc_checksum.nd rfl (.inl rfl))
    (pss_one (ps_if (pt_truth (pe_op op_and (pv 1) pe_int) (by intro _; rfl))
    (pss_one (ps_set (i := 1) sc_checksum.nd rfl (.inl rfl) (pe_op op_xor (pe_op op_shr (pv 1) pe_int) (pe_gi rfl T.g_POLYNOMIAL))))
    (pss_one (ps_set (i := 1) sc_checksum.nd rfl (.inl rfl) (pe_op op_shr (pv 1) pe_int)))))))))
  (pss_one (ps_ret (pe_op op_xor (pv 1) (pe_gi rfl T.g_FULL)))))), ?_⟩
    refine ⟨_, rfl, a, rfl, ⟨_, ql sG ha⟩, for_list (xs := bs.map V.int) (fun i σ H1 => ∃ x2 x3, σ = [some (.ref a), some (.int ((bs.take i).foldl crcV 4294967295 : Nat)), x2, x3] ∧ H1 = H) ?_ (fun i σ H1 _ z => ?_) ?_ ?_⟩
    · exact ⟨none, none, rfl, rfl⟩
    · obtain ⟨_, _, _, rfl⟩ := z
      exact ql sG ha
    · rintro i x σ H1 hx ⟨x2, x3, rfl, rfl⟩
      rw [List.getElem?_map] at hx
      obtain ⟨b, hbi, rfl⟩ := Option.map_eq_some_iff.mp hx
      have hbb := hb b (List.mem_of_getElem? hbi)
      generalize hr1 : (bs.take i).foldl crcV 4294967295 = r1
      have ht : (bs.take (i + 1)).foldl crcV 4294967295 = crcV r1 b := by
        rw [List.take_add_one, hbi, List.foldl_append, hr1]
        rfl
      have eb : b = ((b.toNat : Nat) : Int) := by omega
      have ex : Builtin.bitXor (r1 : Int) b = ((r1 ^^^ b.toNat : Nat) : Int) := by
        have z := bx r1 b.toNat
        rw [← eb] at z
        exact z
      refine ⟨_, rfl, _, rfl, _, _, rfl, rfl, ?_⟩
      refine ⟨8, rfl, by decide, by decide, for_range (lo := 0) (n := 8) (fun j σ H2 => ∃ x3, σ = [some (.ref a), some (.int (crcN j (r1 ^^^ b.toNat) : Nat)), some (.int b), x3] ∧ H2 = H1) ?_ ?_ ?_⟩
      · refine ⟨x3, ?_, rfl⟩
        show [some (V.ref a), some (V.int (Builtin.bitXor (r1 : Int) b)), some (V.int b), x3] = _
        rw [ex]
        rfl
      · rintro j σ H2 hj ⟨y3, rfl, rfl⟩
        generalize hr2 : crcN j (r1 ^^^ b.toNat) = r2
        have e1 : Builtin.bitAnd (r2 : Int) 1 = ((r2 % 2 : Nat) : Int) := PySem.W.kbt_mask (r2 : Int) 1
        have e2 : ((r2 : Int) / 2 ^ (1 : Int).toNat) = ((r2 / 2 : Nat) : Int) := by
          show (r2 : Int) / 2 ^ 1 = _
          omega
        have e3 : crcN (j + 1) (r1 ^^^ b.toNat) = crcB r2 := by rw [← hr2]; rfl
        by_cases c : r2 % 2 = 1
        · refine ⟨_, rfl, _, _, rfl, rfl, true, ?_, iteT ?_⟩
          · show true = (Builtin.bitAnd (r2 : Int) 1 != 0)
            rw [e1, c]
            rfl
          · refine ⟨_, rfl, _, _, rfl, rfl, (show (0 : Int) ≤ 1 by decide), _, 3988292384, rfl, rfl, some (.int (0 + (j : Nat))), ?_, rfl⟩
            have e4 := bx (r2 / 2) 3988292384
            show [some (V.ref a), some (V.int (Builtin.bitXor ((r2 : Int) / 2 ^ (1 : Int).toNat) 3988292384)), some (V.int b), _] = _
            rw [e3]
            unfold crcB
            rw [if_pos c, ← e4, ← e2]
            rfl
        · refine ⟨_, rfl, _, _, rfl, rfl, false, ?_, iteF ?_⟩
          · show false = (Builtin.bitAnd (r2 : Int) 1 != 0)
            rw [e1, show r2 % 2 = 0 by omega]
            rfl
          · refine ⟨_, rfl, _, _, rfl, rfl, (show (0 : Int) ≤ 1 by decide), some (.int (0 + (j : Nat))), ?_, rfl⟩
            show [some (V.ref a), some (V.int ((r2 : Int) / 2 ^ (1 : Int).toNat)), some (V.int b), _] = _
            rw [e3]
            unfold crcB
            rw [if_neg c, ← e2]
      · rintro σ H2 ⟨y3, rfl, rfl⟩
        exact ⟨some (.int b), y3, by rw [ht]; rfl, rfl⟩
    · rintro σ H1 ⟨x2, x3, rfl, rfl⟩
      have ht : bs.take (bs.map V.int).length = bs := by rw [List.length_map, List.take_length]
      rw [ht]
      refine ⟨_, rfl, _, _, rfl, rfl, ?_⟩
      have e := bx (bs.foldl crcV 4294967295) 4294967295
      show Q (.int (Builtin.bitXor _ _)) _
      rw [show (4294967295 : Int) = ((4294967295 : Nat) : Int) from rfl, e]
      exact q
/-! ### four_bytes, number_of -/
def fourB (n : Nat) : List Int := [((n % 256 : Nat) : Int), ((n / 256 % 256 : Nat) : Int), ((n / 65536 % 256 : Nat) : Int), ((n / 16777216 % 256 : Nat) : Int)]
def sp_four_bytes : Sp := fun vs H Q _ => ∃ (G : Hp) (n : Nat), Same G H ∧ vs = [.int n] ∧ Post G H Q fun v G' => Rp G' v (IntsD (fourB n))
theorem sc_four_bytes : FnScope n_four_bytes p_four_bytes (defScope s_four_bytes) := ⟨rfl, rfl, rfl, by decide +kernel, rfl, by decide +kernel, by decide +kernel⟩
theorem ok_four_bytes (T : Facts K mg) : FnOk P w K mg base CX0 1 (fA K "four_bytes") (fD K "four_bytes") p_four_bytes sp_four_bytes := by
  refine T.four_bytes.F.ok sc_four_bytes (fun vs H Q E h => ?_) (fun cdv A outer s H vs Q E hr h => ?_)
  · obtain ⟨G, n, _, rfl, _⟩ := h
    rfl
  · obtain ⟨G, n, sG, rfl, q⟩ := h
    refine ⟨_, PSs.nox (pss_one (ps_ret (pe_lc (own := [("k", 1)]) rfl sc_four_bytes.nd (pi_range1 rfl T.z_range (pa_cons pe_int pa_nil)) (blkOk_by (own := [("k", 1)]) (N := n_four_bytes) (sc := defScope s_four_bytes) (by decide +kernel)) (fun _ _ _ _ _ => (pg_name (i := 1) sc_four_bytes.nd rfl (.inl rfl))) (fun _ _ _ _ _ => pts_nil) (fun _ _ _ _ _ => (pe_op op_and (pe_op op_shr (pv 0) (pe_op op_mul pe_int (pv 1))) pe_int))))), ?_⟩
    refine ⟨4, rfl, by decide, by decide, lcR (G := G) (n := 4) (fun i => .int ((n / 256 ^ i % 256 : Nat) : Int)) sG (by decide) (fun i G1 H1 hi A1 Qy qy => ?_) (fun D G' H' acc A' hD r => ?_)⟩
    · refine ⟨rfl, _, rfl, _, rfl, 8, _, rfl, rfl, .inl ⟨by decide, by decide⟩, _, _, rfl, rfl, (show (0 : Int) ≤ 8 * (0 + (i : Nat)) by omega), _, 255, rfl, rfl, ?_⟩
      refine qy _ G1 H1 (.refl A1.gh) ?_
      have e1 : (8 * (0 + ((i : Nat) : Int))).toNat = 8 * i := by omega
      have e2 : (n : Int) / 2 ^ (8 * (0 + ((i : Nat) : Int))).toNat = ((n / 256 ^ i : Nat) : Int) := by
        rw [e1, show (256 : Nat) = 2 ^ 8 from rfl, ← Nat.pow_mul, Int.natCast_ediv, Int.natCast_pow]
        rfl
      have e3 : Builtin.bitAnd ((n / 256 ^ i : Nat) : Int) 255 = ((n / 256 ^ i % 256 : Nat) : Int) := PySem.W.kbt_mask _ 8
      show Rp G1 (.int (Builtin.bitAnd ((n : Int) / 2 ^ (8 * (0 + ((i : Nat) : Int))).toNat) 255)) _
      rw [e2, e3]
      exact .int _
    · refine q _ G' H' A' (.lst hD ?_)
      have e : (List.range 4).map (fun i => PyData.int ((n / 256 ^ i % 256 : Nat) : Int)) = (fourB n).map PyData.int := by
        simp [fourB, List.range, List.range.loop]
      rw [← e]
      exact r
theorem fourB_val {n : Nat} (h : n < 2 ^ 32) : n % 256 + n / 256 % 256 * 256 + n / 65536 % 256 * 65536 + n / 16777216 % 256 * 16777216 = n := by omega
def sp_number_of : Sp := fun vs H Q _ => ∃ (G : Hp) (r : V) (n : Nat), Same G H ∧ vs = [r] ∧ Rp G r (IntsD (fourB n)) ∧ n < 2 ^ 32 ∧ Q (.int n) H
theorem sc_number_of : FnScope n_number_of p_number_of (defScope s_number_of) := ⟨rfl, rfl, rfl, by decide +kernel, rfl, by decide +kernel, by decide +kernel⟩
theorem ok_number_of (T : Facts K mg) : FnOk P w K mg base CX0 1 (fA K "number_of") (fD K "number_of") p_number_of sp_number_of := by
  refine T.number_of.F.ok sc_number_of (fun vs H Q E h => ?_) (fun cdv A outer s H vs Q E hr h => ?_)
  · obtain ⟨G, r, n, _, rfl, _⟩ := h
    rfl
  · obtain ⟨G, r, n, sG, rfl, hr0, hn, q⟩ := h
    obtain ⟨a, rfl, ha⟩ := hr0.ints
    refine ⟨_, PSs.nox (pss_one (ps_ret (pe_op op_add (pe_op op_add (pe_op op_add (pe_ix ix_list (pv 0) pe_int (fun _ _ => rfl)) (pe_op op_shl (pe_ix ix_list (pv 0) pe_int (fun _ _ => rfl)) pe_int)) (pe_op op_shl (pe_ix ix_list (pv 0) pe_int (fun _ _ => rfl)) pe_int)) (pe_op op_shl (pe_ix ix_list (pv 0) pe_int (fun _ _ => rfl)) pe_int)))), ?_⟩
    have hq : SqL K H a ((fourB n).map V.int) := ql sG ha
    have cp : ∀ (i k : Int), 0 ≤ i → i < 256 → 0 ≤ k → k ≤ 24 → CPow i k := fun i k h1 h2 h3 h4 => ⟨h3, by omega, by omega⟩
    refine ⟨.ref a, rfl, a, _, 0, _, rfl, rfl, hq, atI_nat (j := 0) rfl, .ref a, rfl, a, _, 1, _, rfl, rfl, hq, atI_nat (j := 1) rfl, _, 8, rfl, rfl, cp _ _ (by omega) (by omega) (by decide) (by decide), _, _, rfl, rfl,
      .ref a, rfl, a, _, 2, _, rfl, rfl, hq, atI_nat (j := 2) rfl, _, 16, rfl, rfl, cp _ _ (by omega) (by omega) (by decide) (by decide), _, _, rfl, rfl,
      .ref a, rfl, a, _, 3, _, rfl, rfl, hq, atI_nat (j := 3) rfl, _, 24, rfl, rfl, cp _ _ (by omega) (by omega) (by decide) (by decide), _, _, rfl, rfl, ?_⟩
    have e : (((n % 256 : Nat) : Int) + ((n / 256 % 256 : Nat) : Int) * 2 ^ (8 : Int).toNat + ((n / 65536 % 256 : Nat) : Int) * 2 ^ (16 : Int).toNat + ((n / 16777216 % 256 : Nat) : Int) * 2 ^ (24 : Int).toNat) = (n : Int) := by
      show (((n % 256 : Nat) : Int) + ((n / 256 % 256 : Nat) : Int) * 256 + ((n / 65536 % 256 : Nat) : Int) * 65536 + ((n / 16777216 % 256 : Nat) : Int) * 16777216) = (n : Int)
      have := fourB_val hn
      omega
    show Q (.int _) H
    rw [← e] at q
    exact q
end
end Sp
namespace Sp
open PySem PySem.Spec PyProof.Rows L2
section
variable {P : Program} {w : World} {K : PySem.W.Frag} {mg : Str → Option Value} {base : Heap}
/-! ### stuff -/
def stuffA : List Int → List Int → List Int
  | blk, [] => ((blk.length + 1 : Nat) : Int) :: blk
  | blk, b :: r => if b = 0 then (((blk.length + 1 : Nat) : Int) :: blk) ++ stuffA [] r else if blk.length + 2 = 255 then (255 :: (blk ++ [b])) ++ stuffA [] r else stuffA (blk ++ [b]) r
def stuffL (row : List Int) : List Int := stuffA [] row
theorem stuffA_len : ∀ (r blk : List Int), (stuffA blk r).length ≤ blk.length + 2 * r.length + 1
  | [], blk => by simp [stuffA]
  | b :: r, blk => by
    unfold stuffA
    split
    · have := stuffA_len r []
      simp only [List.length_append, List.length_cons, List.length_nil] at *
      omega
    · split
      · have := stuffA_len r []
        simp only [List.length_append, List.length_cons, List.length_nil] at *
        omega
      · have := stuffA_len r (blk ++ [b])
        simp only [List.length_append, List.length_cons, List.length_nil] at *
        omega
theorem stuffA_byte : ∀ (r blk : List Int), Bys r → (∀ b ∈ blk, 0 < b ∧ b < 256) → blk.length ≤ 253 → ∀ b ∈ stuffA blk r, 0 < b ∧ b < 256
  | [], blk, _, hb, hl => by
    intro b h
    unfold stuffA at h
    rcases List.mem_cons.mp h with rfl | h
    · omega
    · exact hb b h
  | c :: r, blk, hr, hb, hl => by
    intro b h
    have hc := hr c List.mem_cons_self
    have hr' : Bys r := fun x hx => hr x (List.mem_cons_of_mem _ hx)
    unfold stuffA at h
    split at h
    · rcases List.mem_append.mp h with h | h
      · rcases List.mem_cons.mp h with rfl | h
        · omega
        · exact hb b h
      · exact stuffA_byte r [] hr' (fun _ z => nomatch z) (by simp) b h
    · rename_i hc0
      have hb2 : ∀ x ∈ blk ++ [c], 0 < x ∧ x < 256 := fun x hx => by
        rcases List.mem_append.mp hx with hx | hx
        · exact hb x hx
        · rw [List.mem_singleton.mp hx]
          omega
      split at h
      · rcases List.mem_append.mp h with h | h
        · rcases List.mem_cons.mp h with rfl | h
          · omega
          · exact hb2 b h
        · exact stuffA_byte r [] hr' (fun _ z => nomatch z) (by simp) b h
      · exact stuffA_byte r (blk ++ [c]) hr' hb2 (by simp; omega) b h
def sp_stuff : Sp := fun vs H Q _ => ∃ (G : Hp) (r : V) (bs : List Int), Same G H ∧ vs = [r] ∧ Rp G r (IntsD bs) ∧ bs.length ≤ 10000 ∧ Post G H Q fun v G' => Rp G' v (IntsD (stuffL bs))
theorem sc_stuff : FnScope n_stuff p_stuff (defScope s_stuff) := ⟨rfl, rfl, rfl, by decide +kernel, rfl, by decide +kernel, by decide +kernel⟩
theorem ok_stuff (T : Facts K mg) : FnOk P w K mg base CX0 1 (fA K "stuff") (fD K "stuff") p_stuff sp_stuff := by
  refine T.stuff.F.ok sc_stuff (fun vs H Q E h => ?_) (fun cdv A outer s H vs Q E hr h => ?_)
  · obtain ⟨G, r, bs, _, rfl, _⟩ := h
    rfl
  · obtain ⟨G, r, bs, sG, rfl, hr0, hb, q⟩ := h
    obtain ⟨a, rfl, ha⟩ := hr0.ints
    have hle := stuffA_len bs []
    refine ⟨_, PSs.nox (pss_cons (ps_set (i := 1) sc_stuff.nd rfl (.inl rfl) (pe_lst pa_nil))
  (pss_cons (ps_set (i := 2) sc_stuff.nd rfl (.inl rfl) (pe_lst pa_nil))
  (pss_cons (ps_for PassesOwn.never rfl (pi_list (pv 0)) (pg_name (i := 3) sc_stuff.nd rfl (.inl rfl))
    (pss_one (ps_if (pt_cmpR op_eq (pv 3) pe_int (nomark _))
    (pss_cons (ps_expr (pe_bm PySem.F.plainAttrs_list PySem.F.slot_list_extend PySem.F.type_list_extend mt_extend (pv 1) (pa_cons (pe_lst (pa_cons (pe_op op_add (pe_callB call_len_seq rfl T.z_len bi_len (pa_cons (pv 2) pa_nil)) pe_int) (StX.pa_star (pv 2) pa_nil))) pa_nil)))
  (pss_one (ps_set (i := 2) sc_stuff.nd rfl (.inl rfl) (pe_lst pa_nil))))
    (pss_cons (ps_expr (pe_bm PySem.F.plainAttrs_list PySem.F.slot_list_append PySem.F.type_list_append mt_append (pv 2) (pa_cons (pv 3) pa_nil)))
  (pss_one (ps_if (pt_cmpR op_eq (pe_op op_add (pe_callB call_len_seq rfl T.z_len bi_len (pa_cons (pv 2) pa_nil)) pe_int) (pe_gi rfl T.g_FULL_BLOCK) (nomark _))
    (pss_cons (ps_expr (pe_bm PySem.F.plainAttrs_list PySem.F.slot_list_extend PySem.F.type_list_extend mt_extend (pv 1) (pa_cons (pe_lst (pa_cons (pe_gi rfl T.g_FULL_BLOCK) (StX.pa_star (pv 2) pa_nil))) pa_nil)))
  (pss_one (ps_set (i := 2) sc_stuff.nd rfl (.inl rfl) (pe_lst pa_nil))))
    pss_nil))))))
  (pss_one (ps_ret (pe_lst (StX.pa_star (pv 1) (pa_cons (pe_op op_add (pe_callB call_len_seq rfl T.z_len bi_len (pa_cons (pv 2) pa_nil)) pe_int) (StX.pa_star (pv 2) pa_nil))))))))), ?_⟩
    refine ⟨Nat.zero_le _, fun o no => ⟨Nat.zero_le _, fun k nk => ?_⟩⟩
    have a0 : Adv0 G H G H := .refl sG
    have m0 : Mt H G (upd H o (.lst [])) o (.lst []) := .mk_new a0 no
    have a1 := a0.new (u := .lst []) no
    refine ⟨_, rfl, a, rfl, ⟨_, (a1.new (u := .lst []) nk).l ha⟩, for_list (xs := bs.map V.int) (fun i σ H1 => ∃ (k : Addr) (x3 : Option V) (out blk : List Int), σ = [some (.ref a), some (.ref o), some (.ref k), x3] ∧ Adv0 G H G H1 ∧ Mt H G H1 o (.lst (out.map V.int)) ∧ Mt H G H1 k (.lst (blk.map V.int)) ∧ o ≠ k ∧
      out ++ stuffA blk (bs.drop i) = stuffL bs ∧ blk.length ≤ 253) ?_ (fun i σ H1 _ z => ?_) ?_ ?_⟩
    · exact ⟨k, none, [], [], rfl, a1.new nk, m0.new nk, .mk_new a1 nk, ne_of_none m0.h nk, rfl, by decide⟩
    · obtain ⟨_, _, _, _, _, A1, _⟩ := z
      exact A1.l ha
    · rintro i x σ H1 hx ⟨k, x3, out, blk, rfl, A1, mo, mk, nok, e, lb⟩
      rw [List.getElem?_map] at hx
      obtain ⟨b, hbi, rfl⟩ := Option.map_eq_some_iff.mp hx
      have hd : bs.drop i = b :: bs.drop (i + 1) := by
        obtain ⟨h1, h2⟩ := List.getElem?_eq_some_iff.mp hbi
        rw [← h2]
        exact List.drop_eq_getElem_cons h1
      rw [hd] at e
      have lo : out.length ≤ (stuffL bs).length := by
        have := congrArg List.length e
        simp only [List.length_append] at this
        omega
      have ls : (stuffL bs).length ≤ 20001 := by
        unfold stuffL
        simp only [List.length_nil] at hle
        omega
      by_cases c : b = 0
      · subst c
        refine ⟨_, rfl, rfl, true, vt rfl, iteT ?_⟩
        refine ⟨_, rfl, .inl ⟨rfl, _, SqL.of mo.h⟩, .ref k, rfl, k, _, rfl, .inl (SqL.of mk.h), _, 1, rfl, rfl, .ref k, rfl, k, _, rfl, .inr (SqL.of mk.h), ?_, fun t nt => ?_⟩
        · simp only [List.length_cons, List.length_append, List.length_map, List.length_nil]
          exact line_le (by omega)
        · have mo2 := mo.new (u := .lst (V.int ((blk.map V.int).length + 1) :: (blk.map V.int ++ []))) nt
          refine ⟨o, t, _, _, rfl, rfl, mo2.h, upd_same, ?_, ?_⟩
          · simp only [List.length_cons, List.length_append, List.length_map, List.length_nil]
            exact line_le (by omega)
          · have A2 := A1.new (u := .lst (V.int ((blk.map V.int).length + 1) :: (blk.map V.int ++ []))) nt
            have A3 := mo2.wrA (y := .lst (out.map V.int ++ (V.int ((blk.map V.int).length + 1) :: (blk.map V.int ++ [])))) A2
            have mo3 := mo2.wr (y := .lst (out.map V.int ++ (V.int ((blk.map V.int).length + 1) :: (blk.map V.int ++ []))))
            refine ⟨Nat.zero_le _, fun k2 nk2 => ?_⟩
            refine ⟨k2, _, out ++ (((blk.length + 1 : Nat) : Int) :: blk), [], rfl, A3.new nk2, ?_, .mk_new A3 nk2, ne_of_none mo3.h nk2, ?_, by decide⟩
            · exact (mo3.new nk2).as (by simp)
            · unfold stuffA at e
              rw [if_pos rfl] at e
              rw [← e]
              simp
      · refine ⟨_, rfl, rfl, false, vf (fun z => c (V.int.inj z)), iteF ?_⟩
        have mk2 := mk.wr (y := .lst (blk.map V.int ++ [.int b]))
        have mo2 := mo.oth (y := .lst (blk.map V.int ++ [.int b])) nok
        have A2 := mk.wrA (y := .lst (blk.map V.int ++ [.int b])) A1
        have ek : (blk.map V.int ++ [.int b]) = (blk ++ [b]).map V.int := by simp
        refine ⟨_, rfl, .inl ⟨rfl, _, SqL.of mk.h⟩, _, rfl, k, _, _, rfl, rfl, mk.h, by rw [List.length_map]; exact small1000 (by omega), ?_⟩
        unfold stuffA at e
        rw [if_neg c] at e
        by_cases f : blk.length + 2 = 255
        · rw [if_pos f] at e
          refine ⟨_, rfl, k, _, rfl, .inl (SqL.of mk2.h), _, 1, rfl, rfl, rfl, true, vt (congrArg V.int ?_), iteT ?_⟩
          · simp only [List.length_append, List.length_map, List.length_cons, List.length_nil]
            omega
          refine ⟨_, rfl, .inl ⟨rfl, _, SqL.of mo2.h⟩, .ref k, rfl, k, _, rfl, .inr (SqL.of mk2.h), ?_, fun t nt => ?_⟩
          · simp only [List.length_cons, List.length_append, List.length_map, List.length_nil]
            exact line_le (by omega)
          · have mo3 := mo2.new (u := .lst (V.int 255 :: (blk.map V.int ++ [.int b] ++ []))) nt
            refine ⟨o, t, _, _, rfl, rfl, mo3.h, upd_same, ?_, ?_⟩
            · simp only [List.length_cons, List.length_append, List.length_map, List.length_nil]
              exact line_le (by omega)
            · have A3 := A2.new (u := .lst (V.int 255 :: (blk.map V.int ++ [.int b] ++ []))) nt
              have A4 := mo3.wrA (y := .lst (out.map V.int ++ (V.int 255 :: (blk.map V.int ++ [.int b] ++ [])))) A3
              have mo4 := mo3.wr (y := .lst (out.map V.int ++ (V.int 255 :: (blk.map V.int ++ [.int b] ++ []))))
              refine ⟨Nat.zero_le _, fun k2 nk2 => ?_⟩
              refine ⟨k2, _, out ++ (255 :: (blk ++ [b])), [], rfl, A4.new nk2, ?_, .mk_new A4 nk2, ne_of_none mo4.h nk2, ?_, by decide⟩
              · exact (mo4.new nk2).as (by simp)
              · rw [← e]
                simp
        · rw [if_neg f] at e
          refine ⟨_, rfl, k, _, rfl, .inl (SqL.of mk2.h), _, 1, rfl, rfl, rfl, false, vf (fun z => f ?_), iteF ?_⟩
          · have := V.int.inj z
            simp only [List.length_append, List.length_map, List.length_cons, List.length_nil] at this
            omega
          · refine ⟨k, _, out, blk ++ [b], rfl, A2, mo2, ?_, nok, e, by simp; omega⟩
            rw [← ek]
            exact mk2
    · rintro σ H1 ⟨k, x3, out, blk, rfl, A1, mo, mk, nok, e, lb⟩
      have hd : bs.drop (bs.map V.int).length = [] := by rw [List.length_map, List.drop_length]
      rw [hd] at e
      have lo : out.length + blk.length + 1 = (stuffL bs).length := by
        have := congrArg List.length e
        simp only [List.length_append, stuffA, List.length_cons] at this
        omega
      have ls : (stuffL bs).length ≤ 20001 := by
        unfold stuffL
        simp only [List.length_nil] at hle
        omega
      refine ⟨.ref o, rfl, o, _, rfl, .inr (SqL.of mo.h), .ref k, rfl, k, _, rfl, .inl (SqL.of mk.h), _, 1, rfl, rfl, .ref k, rfl, k, _, rfl, .inr (SqL.of mk.h), ?_, fun p np => ?_⟩
      · simp only [List.length_cons, List.length_append, List.length_map, List.length_nil]
        exact line_le (by omega)
      · refine q _ _ _ (A1.frz np) (rp_ints ?_)
        rw [upd_same, ← e]
        simp [stuffA]
end
end Sp
namespace Sp
open PySem PySem.Spec PyProof.Rows L2
section
variable {P : Program} {w : World} {K : PySem.W.Frag} {mg : Str → Option Value} {base : Heap}
/-! ### unstuff -/
theorem stuffA_cut : ∀ (r blk : List Int), blk.length ≤ 253 →
    (∃ p q, r = p ++ 0 :: q ∧ stuffA blk r = (((blk ++ p).length + 1 : Nat) : Int) :: (blk ++ p) ++ stuffA [] q ∧ (blk ++ p).length ≤ 253) ∨
    (∃ p q, r = p ++ q ∧ stuffA blk r = 255 :: (blk ++ p) ++ stuffA [] q ∧ (blk ++ p).length = 254) ∨
    (stuffA blk r = (((blk ++ r).length + 1 : Nat) : Int) :: (blk ++ r) ∧ (blk ++ r).length ≤ 253)
  | [], blk, h => .inr (.inr ⟨by simp [stuffA], by simpa using h⟩)
  | c :: r, blk, h => by
    by_cases z : c = 0
    · subst z
      exact .inl ⟨[], r, rfl, by simp [stuffA], by simpa using h⟩
    · by_cases f : blk.length + 2 = 255
      · refine .inr (.inl ⟨[c], r, rfl, ?_, by simp; omega⟩)
        rw [stuffA, if_neg z, if_pos f]
      · have e : stuffA blk (c :: r) = stuffA (blk ++ [c]) r := by rw [stuffA, if_neg z, if_neg f]
        have e2 : ∀ p : List Int, blk ++ [c] ++ p = blk ++ c :: p := fun p => by simp
        rcases stuffA_cut r (blk ++ [c]) (by simp; omega) with ⟨p, q, h1, h2, h3⟩ | ⟨p, q, h1, h2, h3⟩ | ⟨h2, h3⟩
        · exact .inl ⟨c :: p, q, by rw [h1]; rfl, by rw [e, h2, e2], by rw [← e2]; exact h3⟩
        · exact .inr (.inl ⟨c :: p, q, by rw [h1]; rfl, by rw [e, h2, e2], by rw [← e2]; exact h3⟩)
        · exact .inr (.inr ⟨by rw [e, h2, e2], by rw [← e2]; exact h3⟩)
theorem stuffA_ne (blk r : List Int) : stuffA blk r ≠ [] := by
  induction r generalizing blk with
  | nil => simp [stuffA]
  | cons c r ih =>
    unfold stuffA
    split
    · simp
    · split
      · simp
      · exact ih _
theorem inV_no {bs : List Int} (h : ∀ b ∈ bs, 0 < b) : inV (.int 0) (bs.map V.int) = false := by
  unfold inV
  rw [List.any_eq_false]
  intro x hx
  obtain ⟨b, hb, rfl⟩ := List.mem_map.mp hx
  have := h b hb
  show ¬ (eqV (.int b) (.int 0)) = true
  simp [eqV]
  omega
def sp_unstuff : Sp := fun vs H Q _ => ∃ (G : Hp) (r : V) (bs : List Int), Same G H ∧ vs = [r] ∧ Rp G r (IntsD (stuffL bs)) ∧ Bys bs ∧ bs.length ≤ 10000 ∧ Post G H Q fun v G' => Rp G' v (IntsD bs)
theorem sc_unstuff : FnScope n_unstuff p_unstuff (defScope s_unstuff) := ⟨rfl, rfl, rfl, by decide +kernel, rfl, by decide +kernel, by decide +kernel⟩
theorem ok_unstuff (T : Facts K mg) : FnOk P w K mg base CX0 1 (fA K "unstuff") (fD K "unstuff") p_unstuff sp_unstuff := by
  refine T.unstuff.F.ok sc_unstuff (fun vs H Q E h => ?_) (fun cdv A outer s H vs Q E hr h => ?_)
  · obtain ⟨G, r, bs, _, rfl, _⟩ := h
    rfl
  · obtain ⟨G, r, bs, sG, rfl, hr0, hby, hb, q⟩ := h
    obtain ⟨a, rfl, ha⟩ := hr0.ints
    have hle := stuffA_len bs []
    have hpos := stuffA_byte bs [] hby (fun _ z => nomatch z) (by simp)
    have hne := stuffA_ne [] bs
    refine ⟨_, PSs.nox (pss_cons (ps_if (PW.pt (pw_or (pt_cmpR op_in_seq pe_int (pv 0) (by rfl)) (pw_or1 (pt_cmpR op_eq (pe_callB call_len_seq rfl T.z_len bi_len (pa_cons (pv 0) pa_nil)) pe_int (nomark _)))))
    pss_never
    pss_nil)
  (pss_cons (ps_set (i := 1) sc_unstuff.nd rfl (.inl rfl) (pe_lst pa_nil))
  (pss_cons (ps_set (i := 2) sc_unstuff.nd rfl (.inl rfl) pe_int)
  (pss_cons (ps_set (i := 3) sc_unstuff.nd rfl (.inl rfl) (pe_gi rfl T.g_FULL_BLOCK))
  (pss_cons (ps_while PassesOwn.never (pt_cmpR op_lt (pv 2) (pe_callB call_len_seq rfl T.z_len bi_len (pa_cons (pv 0) pa_nil)) (nomark _))
    (pss_cons (ps_set (i := 3) sc_unstuff.nd rfl (.inl rfl) (pe_ix ix_list (pv 0) (pv 2) (fun _ _ => rfl)))
  (pss_cons (ps_if (pt_cmpR op_gt (pe_op op_add (pv 2) (pv 3)) (pe_callB call_len_seq rfl T.z_len bi_len (pa_cons (pv 0) pa_nil)) (nomark _))
    pss_never
    pss_nil)
  (pss_cons (ps_expr (pe_bm PySem.F.plainAttrs_list PySem.F.slot_list_extend PySem.F.type_list_extend mt_extend (pv 1) (pa_cons (pe_slice sl_list (pv 0) (po_some (pe_op op_add (pv 2) pe_int)) (po_some (pe_op op_add (pv 2) (pv 3)))) pa_nil)))
  (pss_cons (ps_if (pt_cmpR op_lt (pv 3) (pe_gi rfl T.g_FULL_BLOCK) (nomark _))
    (pss_one (ps_expr (pe_bm PySem.F.plainAttrs_list PySem.F.slot_list_append PySem.F.type_list_append mt_append (pv 1) (pa_cons pe_int pa_nil))))
    pss_nil)
  (pss_one (ps_aug (i := 2) sc_unstuff.nd rfl (.inl rfl) (pv 3) ip_add)))))))
  (pss_cons (ps_if (pt_cmpR op_eq (pv 3) (pe_gi rfl T.g_FULL_BLOCK) (nomark _))
    pss_never
    pss_nil)
  (pss_cons (ps_expr (pe_bm0 PySem.F.plainAttrs_list PySem.F.slot_list_pop PySem.F.type_list_pop mt_pop (pv 1)))
  (pss_one (ps_ret (pv 1)))))))))), ?_⟩
    generalize hpc : stuffL bs = pc at ha
    have hpc' : stuffA [] bs = pc := hpc
    rw [hpc'] at hle hpos hne
    have lpc : pc.length ≤ 20001 := by
      simp only [List.length_nil] at hle
      omega
    have h0 : 0 < pc.length := List.length_pos_iff.mpr hne
    refine ⟨_, rfl, a, _, rfl, .inl (ql sG ha), rfl, ?_, false, ?_, iteF ⟨_, rfl, a, _, rfl, .inl (ql sG ha), rfl, false, vf (fun z => ?_), iteF ?_⟩⟩
    · rw [List.all_eq_true]
      intro x hx
      obtain ⟨b, _, rfl⟩ := List.mem_map.mp hx
      rfl
    · show V.bl (inV (.int 0) (pc.map V.int)) = _
      rw [inV_no fun b h => (hpos b h).1]
    · have := V.int.inj z
      rw [List.length_map] at this
      omega
    refine ⟨Nat.zero_le _, fun o no => ?_⟩
    have a0 : Adv0 G H G H := .refl sG
    refine ⟨fun m σ H1 => ∃ (at_ : Nat) (size : Int) (out : List Int), σ = [some (.ref a), some (.ref o), some (.int at_), some (.int size)] ∧ Adv0 G H G H1 ∧ Mt H G H1 o (.lst (out.map V.int)) ∧ at_ ≤ pc.length ∧ m = pc.length - at_ ∧ out.length ≤ at_ ∧
      ((∃ r, pc.drop at_ = stuffA [] r ∧ out ++ r = bs) ∨ (at_ = pc.length ∧ out = bs ++ [0] ∧ size < 255)),
      ⟨pc.length, 0, 255, [], rfl, a0.new no, .mk_new a0 no, Nat.zero_le _, rfl, by simp, .inl ⟨bs, hpc'.symm, rfl⟩⟩, ?_⟩
    rintro m σ H1 ⟨at_, size, out, rfl, A1, mo, hat, rfl, hout, hst⟩
    have hL : ((pc.map V.int).length : Int) = (pc.length : Nat) := by rw [List.length_map]
    by_cases lt : at_ < pc.length
    · refine ⟨_, rfl, _, rfl, a, _, rfl, .inl (A1.l ha), _, _, rfl, rfl, true, vt (by rw [hL]; omega), iteT ?_⟩
      refine ⟨fun σ' H' => _, fun σ' H' z => z, ?_⟩
      obtain ⟨r, hr1, hr2⟩ : ∃ r, pc.drop at_ = stuffA [] r ∧ out ++ r = bs := by
        rcases hst with h | ⟨h, _⟩
        · exact h
        · omega
      -- the first block
      obtain ⟨sz, p, rest, hblk, hsz, hcase⟩ : ∃ (sz : Nat) (p rest : List Int), pc.drop at_ = (sz : Int) :: p ++ rest ∧ sz = p.length + 1 ∧
          ((sz < 255 ∧ ∃ q, rest = stuffA [] q ∧ out ++ p ++ [0] ++ q = bs) ∨ (sz = 255 ∧ ∃ q, rest = stuffA [] q ∧ out ++ p ++ q = bs) ∨ (sz < 255 ∧ rest = [] ∧ out ++ p = bs)) := by
        rcases stuffA_cut r [] (by simp) with ⟨p, q, h1, h2, h3⟩ | ⟨p, q, h1, h2, h3⟩ | ⟨h2, h3⟩
        · exact ⟨p.length + 1, p, stuffA [] q, by rw [hr1, h2]; rfl, rfl, .inl ⟨by simp at h3; omega, q, rfl, by rw [← hr2, h1]; simp⟩⟩
        · have h3' : p.length = 254 := by simpa using h3
          exact ⟨255, p, stuffA [] q, by rw [hr1, h2]; rfl, by omega, .inr (.inl ⟨rfl, q, rfl, by rw [← hr2, h1]; simp⟩)⟩
        · exact ⟨r.length + 1, r, [], by rw [hr1, h2]; simp, rfl, .inr (.inr ⟨by simp at h3; omega, rfl, hr2⟩)⟩
      have hdl : pc.length - at_ = sz + rest.length := by
        have := congrArg List.length hblk
        simp only [List.length_drop, List.length_append, List.length_cons] at this
        omega
      have hat0 : (pc.map V.int)[at_]? = some (.int sz) := by
        rw [List.getElem?_map]
        have : pc[at_]? = (pc.drop at_)[0]? := by rw [List.getElem?_drop]; rfl
        rw [this, hblk]
        rfl
      refine ⟨_, rfl, _, rfl, a, _, _, _, rfl, rfl, A1.l ha, atI_nat hat0, ?_⟩
      refine ⟨_, rfl, _, rfl, _, _, rfl, rfl, _, rfl, a, _, rfl, .inl (A1.l ha), _, _, rfl, rfl, false, vf (by rw [hL]; omega), iteF ?_⟩
      -- out.extend(piece[at + 1:at + size])
      have hcut : cutV (pc.map V.int) (some ((at_ : Int) + 1)) (some ((at_ : Int) + (sz : Int))) = p.map V.int := by
        rw [show (at_ : Int) + 1 = ((at_ + 1 : Nat) : Int) by omega, show (at_ : Int) + (sz : Int) = ((at_ + sz : Nat) : Int) by omega, cut_nat (by omega) (by rw [List.length_map]; omega)]
        rw [← List.map_drop, ← List.map_take]
        congr 1
        have : pc.drop (at_ + 1) = (pc.drop at_).drop 1 := by rw [List.drop_drop]
        rw [this, hblk, show at_ + sz - (at_ + 1) = p.length by omega]
        simp
      refine ⟨_, rfl, .inl ⟨rfl, _, SqL.of mo.h⟩, .ref a, rfl, _, rfl, _, _, rfl, rfl, _, rfl, _, rfl, _, rfl, _, _, rfl, rfl, _, rfl, a, _, rfl, A1.l ha, fun t nt => ?_⟩
      have mo2 := mo.new (u := .lst (cutV (pc.map V.int) (some ((at_ : Int) + 1)) (some ((at_ : Int) + (sz : Int))))) nt
      have A2 := A1.new (u := .lst (cutV (pc.map V.int) (some ((at_ : Int) + 1)) (some ((at_ : Int) + (sz : Int))))) nt
      refine ⟨o, t, _, _, rfl, rfl, mo2.h, upd_same, ?_, ?_⟩
      · rw [hcut]
        simp only [List.length_map]
        exact line_le (by omega)
      have A3 := mo2.wrA (y := .lst (out.map V.int ++ cutV (pc.map V.int) (some ((at_ : Int) + 1)) (some ((at_ : Int) + (sz : Int))))) A2
      have mo3 := mo2.wr (y := .lst (out.map V.int ++ cutV (pc.map V.int) (some ((at_ : Int) + 1)) (some ((at_ : Int) + (sz : Int)))))
      have hs : at_ + sz ≤ pc.length := by omega
      have sp : sz ≤ 255 := by rcases hcase with ⟨h, _⟩ | ⟨h, _⟩ | ⟨h, _⟩ <;> omega
      have hrest : pc.drop (at_ + sz) = rest := by
        rw [← List.drop_drop, hblk, hsz]
        simp
      by_cases c : sz < 255
      · refine ⟨_, rfl, _, _, rfl, rfl, true, vt (by omega), iteT ?_⟩
        refine ⟨_, rfl, .inl ⟨rfl, _, SqL.of mo3.h⟩, o, _, _, rfl, rfl, mo3.h, ?_, ?_⟩
        · rw [hcut]
          simp only [List.length_append, List.length_map]
          exact line_lt (by omega)
        have A4 := mo3.wrA (y := .lst (out.map V.int ++ cutV (pc.map V.int) (some ((at_ : Int) + 1)) (some ((at_ : Int) + (sz : Int))) ++ [.int 0])) A3
        have mo4 := mo3.wr (y := .lst (out.map V.int ++ cutV (pc.map V.int) (some ((at_ : Int) + 1)) (some ((at_ : Int) + (sz : Int))) ++ [.int 0]))
        refine ⟨_, rfl, _, rfl, _, _, rfl, rfl, ?_⟩
        refine ⟨pc.length - (at_ + sz), by omega, at_ + sz, sz, out ++ p ++ [0], rfl, A4, mo4.as (by rw [hcut]; simp), hs, rfl, ?_, ?_⟩
        · simp only [List.length_append, List.length_cons, List.length_nil]
          omega
        · rcases hcase with ⟨_, qq, h1, h2⟩ | ⟨h, _⟩ | ⟨_, h1, h2⟩
          · exact .inl ⟨qq, by rw [hrest, h1], h2⟩
          · omega
          · refine .inr ⟨?_, by rw [← h2], by omega⟩
            rw [h1] at hdl
            simp only [List.length_nil] at hdl
            omega
      · refine ⟨_, rfl, _, _, rfl, rfl, false, vf (by omega), iteF ?_⟩
        refine ⟨_, rfl, _, rfl, _, _, rfl, rfl, ?_⟩
        refine ⟨pc.length - (at_ + sz), by omega, at_ + sz, sz, out ++ p, rfl, A3, mo3.as (by rw [hcut]; simp), hs, rfl, ?_, ?_⟩
        · simp only [List.length_append]
          omega
        · rcases hcase with ⟨h, _⟩ | ⟨_, qq, h1, h2⟩ | ⟨h, _⟩
          · omega
          · exact .inl ⟨qq, by rw [hrest, h1], h2⟩
          · omega
    · refine ⟨_, rfl, _, rfl, a, _, rfl, .inl (A1.l ha), _, _, rfl, rfl, false, vf (by rw [hL]; omega), iteF ?_⟩
      obtain ⟨h1, h2, h3⟩ : at_ = pc.length ∧ out = bs ++ [0] ∧ size < 255 := by
        rcases hst with ⟨r, h, _⟩ | h
        · exfalso
          rw [show at_ = pc.length by omega, List.drop_length] at h
          exact stuffA_ne [] r h.symm
        · exact h
      refine ⟨_, rfl, rfl, false, vf (fun z => by have := V.int.inj z; omega), iteF ?_⟩
      subst h2
      have hmap : (bs ++ [0]).map V.int = bs.map V.int ++ [.int 0] := by simp
      refine ⟨_, rfl, .inl ⟨rfl, _, SqL.of mo.h⟩, o, _, .int 0, rfl, rfl, mo.h, ?_, ?_⟩
      · rw [hmap]
        simp
      refine ⟨.ref o, rfl, ?_⟩
      have A2 := mo.wrA (y := .lst ((bs ++ [0]).map V.int).dropLast) A1
      have m2 := mo.wr (y := .lst ((bs ++ [0]).map V.int).dropLast)
      refine q _ _ _ (A2.still m2.f m2.h m2.g) (rp_ints ?_)
      rw [upd_same, hmap]
      simp
end
end Sp
namespace Sp
open PySem PySem.Spec PyProof.Rows L2
/-! ### steps through a reading, one lemma each -/
section
variable {σ σ' : L2.St} {H : Hp} {Q : VK} {n : L2.St → Hp → Prop} {r : VK} {b c : L2.St → Hp → Prop} {K : PySem.W.Frag}
def NewO (u : HO) (H : Hp) (Q : VK) : Prop := ∀ p, H p = none → Q (.ref p) (upd H p u)
def AllT (xs : List V) (H : Hp) (Q : VK) : Prop := xs.length ≤ sizeLine ∧ NewO (.tup xs) H Q
def AllL (xs : List V) (H : Hp) (Q : VK) : Prop := xs.length ≤ sizeLine ∧ NewO (.lst xs) H Q
def WrO (P : Hp → Prop) (H : Hp) (a : Addr) (u : HO) : Prop := P (upd H a u)
def IlR (K : PySem.W.Frag) (R : It → Hp → Prop) (x : V) (H : Hp) : Prop := ∃ a, x = .ref a ∧ (∃ xs, SqL K H a xs) ∧ R (Itl K a) H
def ItR (K : PySem.W.Frag) (R : It → Hp → Prop) (x : V) (H : Hp) : Prop := ∃ a, x = .ref a ∧ (∃ xs, SqT K H a xs) ∧ R (Itt K a) H
def Rn1 (R : It → Hp → Prop) (vs : List V) (H : Hp) : Prop := ∃ j : Int, vs = [.int j] ∧ -(2 ^ 62) ≤ j ∧ j < 2 ^ 62 ∧ R (Itr 0 j.toNat) H
def Rn2 (R : It → Hp → Prop) (vs : List V) (H : Hp) : Prop := ∃ i j : Int, vs = [.int i, .int j] ∧ (-(2 ^ 62) ≤ i ∧ i < 2 ^ 62 ∧ -(2 ^ 62) ≤ j ∧ j < 2 ^ 62) ∧ R (Itr i (j - i).toNat) H
def rListOf (K : PySem.W.Frag) : List V → Hp → VK → Prop := fun xs H Q => ∃ p ys, xs = [.ref p] ∧ (SqL K H p ys ∨ SqT K H p ys) ∧ NewO (.lst ys) H Q
theorem call_listN {X : Cx} : CallR X (.type "list") (rListOf X.K) := call_list_of
def rTupOf (K : PySem.W.Frag) : List V → Hp → VK → Prop := fun xs H Q => ∃ p ys, xs = [.ref p] ∧ ((SqL K H p ys ∧ NewO (.tup ys) H Q) ∨ (SqT K H p ys ∧ Q (.ref p) H))
theorem call_tupN {X : Cx} : CallR X (.type "tuple") (rTupOf X.K) := call_tuple_of
def LcR (g : TG) (tt : TT) (te : TE) (vs : List Nat) (σ : L2.St) (J : It) (H : Hp) (Q : VK) : Prop := ∀ D, H D = none → ∃ W : Nat → Nat → Hp → Prop, (∃ m, W 0 m (upd H D (.lst []))) ∧ ∀ i m H, W i m H →
  (J.stop i H ∧ Q (.ref D) H) ∨ (J.go i H ∧ ∃ Nx : Hp → Prop, (∀ H', Nx H' → ∃ m', m' < m ∧ W (i + 1) m' H') ∧ ∀ x H', J.yld i H x H' → g x (wipe σ vs) H' fun σ2 H2 => wipe σ2 vs = wipe σ vs ∧ tt σ2 H2 fun b H3 =>
    if b = true then te σ2 H3 fun y H4 => ∃ acc, H4 D = some (.lst acc) ∧ acc.length < sizeLine ∧ Nx (upd H4 D (.lst (acc ++ [y]))) else Nx H3)
def rRevL (K : PySem.W.Frag) (x : V) (H : Hp) (Q : VK) : Prop := ∃ a xs, x = .ref a ∧ SqL K H a xs ∧ NewO (.lst xs.reverse) H Q
theorem S_revL {te : TE} (h : te σ H fun x H1 => rRevL K x H1 Q) : tRevL K te σ H Q := h
theorem S_rev {a : Addr} {xs : List V} (s : SqL K H a xs) (h : NewO (.lst xs.reverse) H Q) : rRevL K (.ref a) H Q := ⟨a, xs, rfl, s, h⟩
theorem S_lc {wi : TI} {g : TG} {tt : TT} {te : TE} {vs : List Nat} (h : wi σ H fun J H1 => LcR g tt te vs σ J H1 Q) : tLc wi g tt te vs σ H Q := h
def ForR (g : TG) (tb : TS) (D : Ends) (σ : L2.St) (J : It) (H : Hp) : Prop := ∃ W : Nat → Nat → L2.St → Hp → Prop, (∃ m, W 0 m σ H) ∧ ∀ i m σ H, W i m σ H →
  (J.stop i H ∧ D.nx σ H) ∨ (J.go i H ∧ ∃ N : L2.St → Hp → Prop, (∀ σ' H', N σ' H' → ∃ m', m' < m ∧ W (i + 1) m' σ' H') ∧ ∀ x H', J.yld i H x H' → g x σ H' fun σ2 H2 => tb { D with nx := N, ct := N, bk := D.nx } σ2 H2)
theorem S_seq {t u : TS} (h : t ⟨u ⟨n, r, b, c⟩, r, b, c⟩ σ H) : tSeq t u ⟨n, r, b, c⟩ σ H := h
theorem S_next (h : n σ H) : tNext ⟨n, r, b, c⟩ σ H := h
theorem S_ret {te : TE} (h : te σ H r) : tRet te ⟨n, r, b, c⟩ σ H := h
theorem S_retN (h : r .non H) : tRetN ⟨n, r, b, c⟩ σ H := h
theorem S_drop {te : TE} (h : te σ H fun _ H1 => n σ H1) : tDrop te ⟨n, r, b, c⟩ σ H := h
theorem S_if {tc : TT} {t u : TS} (h : tc σ H fun x H1 => if x = true then t ⟨n, r, b, c⟩ σ H1 else u ⟨n, r, b, c⟩ σ H1) : tIfS tc t u ⟨n, r, b, c⟩ σ H := h
theorem S_asg {te : TE} {g : TG} (h : te σ H fun x H1 => g x σ H1 n) : tAsg te g ⟨n, r, b, c⟩ σ H := h
theorem S_for {wi : TI} {g : TG} {tb : TS} (h : wi σ H fun J H1 => ForR g tb ⟨n, r, b, c⟩ σ J H1) : tFor wi g tb ⟨n, r, b, c⟩ σ H := h
theorem S_forL {a : Addr} {xs : List V} {g : TG} {tb : TS} (Pv : Nat → L2.St → Hp → Prop) (h0 : Pv 0 σ H) (hl : ∀ i σ H, i ≤ xs.length → Pv i σ H → SqL K H a xs)
    (hs : ∀ i x σ H, xs[i]? = some x → Pv i σ H → g x σ H fun σ2 H2 => tb ⟨Pv (i + 1), r, n, Pv (i + 1)⟩ σ2 H2) (hd : ∀ σ H, Pv xs.length σ H → n σ H) : ForR g tb ⟨n, r, b, c⟩ σ (Itl K a) H := for_list (D := ⟨n, r, b, c⟩) Pv h0 hl hs hd
theorem S_forT {a : Addr} {xs : List V} {g : TG} {tb : TS} (Pv : Nat → L2.St → Hp → Prop) (h0 : Pv 0 σ H) (hl : ∀ i σ H, i ≤ xs.length → Pv i σ H → SqT K H a xs)
    (hs : ∀ i x σ H, xs[i]? = some x → Pv i σ H → g x σ H fun σ2 H2 => tb ⟨Pv (i + 1), r, n, Pv (i + 1)⟩ σ2 H2) (hd : ∀ σ H, Pv xs.length σ H → n σ H) : ForR g tb ⟨n, r, b, c⟩ σ (Itt K a) H := for_tup (D := ⟨n, r, b, c⟩) Pv h0 hl hs hd
theorem S_forR {lo : Int} {k : Nat} {g : TG} {tb : TS} (Pv : Nat → L2.St → Hp → Prop) (h0 : Pv 0 σ H)
    (hs : ∀ i σ H, i < k → Pv i σ H → g (.int (lo + i)) σ H fun σ2 H2 => tb ⟨Pv (i + 1), r, n, Pv (i + 1)⟩ σ2 H2) (hd : ∀ σ H, Pv k σ H → n σ H) : ForR g tb ⟨n, r, b, c⟩ σ (Itr lo k) H := for_range (D := ⟨n, r, b, c⟩) Pv h0 hs hd
theorem S_while {tc : TT} {tb : TS} (Pv : Nat → L2.St → Hp → Prop) (m0 : Nat) (h0 : Pv m0 σ H)
    (hs : ∀ m σ H, Pv m σ H → tc σ H fun x H1 => if x = true then tb ⟨fun σ' H' => ∃ m', m' < m ∧ Pv m' σ' H', r, n, fun σ' H' => ∃ m', m' < m ∧ Pv m' σ' H'⟩ σ H1 else n σ H1)
    (mono : ∀ σ H Q Q', (∀ b H1, Q b H1 → Q' b H1) → tc σ H Q → tc σ H Q') : tWhile tc tb ⟨n, r, b, c⟩ σ H := by
  refine ⟨Pv, ⟨m0, h0⟩, fun m σ H w => ?_⟩
  refine mono σ H _ _ (fun b H1 q => ?_) (hs m σ H w)
  cases b with
  | true => exact ⟨_, fun σ' H' z => z, q⟩
  | false => exact q
theorem S_nameL {i : Nat} {v : V} {σ' : L2.St} {q : L2.St → Hp → Prop} (e : σ.set i (some v) = σ') (h : q σ' H) : gName i v σ H q := by
  subst e
  exact h
theorem S_name {i : Nat} {v : V} {q : L2.St → Hp → Prop} (h : q (σ.set i (some v)) H) : gName i v σ H q := h
theorem S_gtup {a : Addr} {xs : List V} {k : Nat} {t : TGs} {q : L2.St → Hp → Prop} (hs : SqT K H a xs) (hl : xs.length = k) (h : t xs σ H q) : gTup K k t (.ref a) σ H q := ⟨a, xs, rfl, hs, hl, h⟩
theorem S_gcons {t : TG} {u : TGs} {v : V} {vs : List V} {q : L2.St → Hp → Prop} (h : t v σ H fun σ' H' => u vs σ' H' q) : gCons t u (v :: vs) σ H q := ⟨v, vs, rfl, h⟩
theorem S_gnil {q : L2.St → Hp → Prop} (h : q σ H) : gNil [] σ H q := ⟨rfl, h⟩
theorem S_var {i : Nat} {v : V} (e : σ[i]? = some (some v)) (h : Q v H) : tVar i σ H Q := ⟨v, e, h⟩
theorem S_c {v : V} (h : Q v H) : tC v σ H Q := h
theorem S_op {o : R2} {ta tb : TE} (h : ta σ H fun x H1 => tb σ H1 fun y H2 => o x y H2 Q) : tOp o ta tb σ H Q := h
theorem S_un {o : V → Hp → VK → Prop} {ta : TE} (h : ta σ H fun x H1 => o x H1 Q) : tUn o ta σ H Q := h
theorem S_ri0 {g : Int → Int → V} {i j : Int} (h : Q (g i j) H) : rI0 g (.int i) (.int j) H Q := ⟨i, j, rfl, rfl, h⟩
theorem S_ri {C : Int → Int → Prop} {g : Int → Int → V} {i j : Int} (hc : C i j) (h : Q (g i j) H) : rI C g (.int i) (.int j) H Q := ⟨i, j, rfl, rfl, hc, h⟩
theorem S_ru {g : Int → V} {i : Int} (h : Q (g i) H) : rU g (.int i) H Q := ⟨i, rfl, h⟩
theorem S_eqI {i j : Int} (h : Q (.bl (decide (i = j))) H) : rEq (.int i) (.int j) H Q := ⟨rfl, by
  have e : decide (V.int i = V.int j) = decide (i = j) := decide_eq_decide.mpr ⟨V.int.inj, congrArg V.int⟩
  rw [e]
  exact h⟩
theorem S_neI {i j : Int} (h : Q (.bl (!decide (i = j))) H) : rNe (.int i) (.int j) H Q := ⟨rfl, by
  have e : decide (V.int i = V.int j) = decide (i = j) := decide_eq_decide.mpr ⟨V.int.inj, congrArg V.int⟩
  rw [e]
  exact h⟩
theorem S_test {te : TE} {q : Bool → Hp → Prop} (h : te σ H fun x H' => ∃ k, x = .bl k ∧ q k H') : tTest te σ H q := h
theorem S_tB {te : TE} {q : Bool → Hp → Prop} (h : te σ H fun x H' => ∃ k, x = .bl k ∧ q k H') : tB te σ H q := h
theorem S_tand {t u : TT} {q : Bool → Hp → Prop} (h : t σ H fun c H1 => if c = true then u σ H1 q else q false H1) : tAnd t u σ H q := h
theorem S_tor {t u : TT} {q : Bool → Hp → Prop} (h : t σ H fun c H1 => if c = true then q true H1 else u σ H1 q) : tOr t u σ H q := h
theorem S_tnot {t : TT} {q : Bool → Hp → Prop} (h : t σ H fun c H1 => q (!c) H1) : tNot t σ H q := h
theorem S_chain {o o' : R2} {ta tb tc : TE} (h : ta σ H fun x H1 => tb σ H1 fun y H2 => o x y H2 fun z H3 => ∃ k, z = .bl k ∧ (if k = true then tc σ H3 fun w' H4 => o' y w' H4 Q else Q (.bl false) H3)) : tChain o o' ta tb tc σ H Q := h
theorem S_andV {ta tb : TE} (h : ta σ H fun x H1 => ∃ c, x = .bl c ∧ if c = true then tb σ H1 Q else Q (.bl false) H1) : tAndV ta tb σ H Q := h
theorem S_orV {ta tb : TE} (h : ta σ H fun x H1 => ∃ c, x = .bl c ∧ if c = true then Q (.bl true) H1 else tb σ H1 Q) : tOrV ta tb σ H Q := h
theorem S_notV {ta : TE} (h : ta σ H fun x H1 => ∃ c, x = .bl c ∧ Q (.bl (!c)) H1) : tNotV ta σ H Q := h
theorem S_ifE {t : TT} {ta tb : TE} (h : t σ H fun c H1 => if c = true then ta σ H1 Q else tb σ H1 Q) : tIf t ta tb σ H Q := h
theorem S_tnil {q : List V → Hp → Prop} (h : q [] H) : tNil σ H q := h
theorem S_tcons {ta : TE} {tr : TA} {q : List V → Hp → Prop} (h : ta σ H fun x H1 => tr σ H1 fun xs H2 => q (x :: xs) H2) : tCons ta tr σ H q := h
theorem S_tup {t : TA} (h : t σ H fun xs H1 => AllT xs H1 Q) : tTup t σ H Q := h
theorem S_lst {t : TA} (h : t σ H fun xs H1 => AllL xs H1 Q) : tLst t σ H Q := h
theorem S_call {sp : Sp} {dvs : List V} {E : XK} {t : TA} (h : t σ H fun vs H1 => sp (vs ++ dvs) H1 Q E) : tCall sp dvs E t σ H Q := h
theorem S_cb {o : List V → Hp → VK → Prop} {t : TA} (h : t σ H fun vs H1 => o vs H1 Q) : tCB o t σ H Q := h
theorem S_fld {ta : TE} {f : Str} (h : ta σ H fun x H1 => ∃ a C dx fs v, x = .ref a ∧ H1 a = some (.ins C dx fs) ∧ Cls K C ∧ NoAttr K C f ∧ fs.lookup f = some v ∧ Q v H1) : tFld K ta f σ H Q := h
theorem S_slice {o : V → Option Int → Option Int → Hp → VK → Prop} {te : TE} {tl th : TO} (h : te σ H fun x H1 => tl σ H1 fun l H2 => th σ H2 fun u H3 => o x l u H3 Q) : tSl o te tl th σ H Q := h
theorem S_part {t : TE} {q : Option Int → Hp → Prop} (h : t σ H fun x H1 => ∃ i, x = .int i ∧ q (some i) H1) : tPart t σ H q := h
theorem S_nopart {q : Option Int → Hp → Prop} (h : q none H) : tNoPart σ H q := h
theorem S_isI {i : Int} {q : Int → Prop} (h : q i) : ∃ j, V.int i = .int j ∧ q j := ⟨i, rfl, h⟩
theorem S_bm {T : String} {o : V → List V → Hp → VK → Prop} {to : TE} {t : TA} (h : to σ H fun x H1 => tyV K T x H1 ∧ t σ H1 fun xs H2 => o x xs H2 Q) : tBM K T o to t σ H Q := h
theorem S_bm0 {T : String} {o : V → List V → Hp → VK → Prop} {to : TE} (h : to σ H fun x H1 => tyV K T x H1 ∧ o x [] H1 Q) : tBM0 K T o to σ H Q := h
theorem S_aug {i : Nat} {te : TE} {ti : TIp} {x : V} (e : σ[i]? = some (some x)) (h : te σ H fun y H1 => ti x y H1 fun z H2 => n (σ.set i (some z)) H2) : tAug i te ti ⟨n, r, b, c⟩ σ H := ⟨x, e, h⟩
theorem S_ipI {f : Int → Int → Int} {i j : Int} (h : Q (.int (f i j)) H) : ipI f (.int i) (.int j) H Q := ⟨i, j, rfl, rfl, h⟩
theorem S_ilist {tl : TE} {R : It → Hp → Prop} (h : tl σ H fun x H1 => IlR K R x H1) : iList K tl σ H R := h
theorem S_itup {tl : TE} {R : It → Hp → Prop} (h : tl σ H fun x H1 => ItR K R x H1) : iTup K tl σ H R := h
theorem S_il {a : Addr} {xs : List V} {R : It → Hp → Prop} (s : SqL K H a xs) (h : R (Itl K a) H) : IlR K R (.ref a) H := ⟨a, rfl, ⟨xs, s⟩, h⟩
theorem S_it {a : Addr} {xs : List V} {R : It → Hp → Prop} (s : SqT K H a xs) (h : R (Itt K a) H) : ItR K R (.ref a) H := ⟨a, rfl, ⟨xs, s⟩, h⟩
theorem S_ir1 {ta : TA} {R : It → Hp → Prop} (h : ta σ H fun vs H1 => Rn1 R vs H1) : iRng1 ta σ H R := h
theorem S_ir2 {ta : TA} {R : It → Hp → Prop} (h : ta σ H fun vs H1 => Rn2 R vs H1) : iRng2 ta σ H R := h
theorem S_rn1 {j : Int} {k : Nat} {R : It → Hp → Prop} (e : j = (k : Nat)) (l : k ≤ 16777216) (h : R (Itr 0 k) H) : Rn1 R [.int j] H := ⟨j, rfl, by omega, by omega, by subst e; exact h⟩
theorem S_rn2 {i j : Int} {k : Nat} {R : It → Hp → Prop} (e : j - i = (k : Nat)) (l : 0 ≤ i ∧ j ≤ 16777216) (h : R (Itr i k) H) : Rn2 R [.int i, .int j] H := ⟨i, j, rfl, ⟨by omega, by omega, by omega, by omega⟩, by rw [e]; exact h⟩
theorem S_istr {te : TE} {R : It → Hp → Prop} (h : te σ H fun v H1 => ∃ x, v = .str x ∧ R (Its x) H1) : iStr te σ H R := h
/-! known tests -/
theorem S_kt {q : Bool → Prop} (h : q true) : ∃ k, V.bl true = .bl k ∧ q k := ⟨_, rfl, h⟩
theorem S_kf {q : Bool → Prop} (h : q false) : ∃ k, V.bl false = .bl k ∧ q k := ⟨_, rfl, h⟩
theorem S_knt {q : Bool → Prop} (h : q false) : ∃ k, V.bl (!true) = .bl k ∧ q k := ⟨_, rfl, h⟩
theorem S_knf {q : Bool → Prop} (h : q true) : ∃ k, V.bl (!false) = .bl k ∧ q k := ⟨_, rfl, h⟩
theorem S_dt {p : Prop} {d : Decidable p} {q : Bool → Prop} (hp : p) (h : q true) : ∃ k, V.bl (@decide p d) = .bl k ∧ q k := ⟨true, by rw [decide_eq_true hp], h⟩
theorem S_df {p : Prop} {d : Decidable p} {q : Bool → Prop} (hp : ¬ p) (h : q false) : ∃ k, V.bl (@decide p d) = .bl k ∧ q k := ⟨false, by rw [decide_eq_false hp], h⟩
theorem S_nt {p : Prop} {d : Decidable p} {q : Bool → Prop} (hp : ¬ p) (h : q true) : ∃ k, V.bl (!@decide p d) = .bl k ∧ q k := ⟨true, by rw [decide_eq_false hp]; rfl, h⟩
theorem S_nf {p : Prop} {d : Decidable p} {q : Bool → Prop} (hp : p) (h : q false) : ∃ k, V.bl (!@decide p d) = .bl k ∧ q k := ⟨false, by rw [decide_eq_true hp]; rfl, h⟩
theorem S_T {A B : Prop} (a : A) : if true = true then A else B := a
theorem S_F {A B : Prop} (a : B) : if false = true then A else B := by
  rw [if_neg Bool.false_ne_true]
  exact a
theorem S_NT {A B : Prop} (a : B) : if (!true) = true then A else B := S_F a
theorem S_NF {A B : Prop} (a : A) : if (!false) = true then A else B := a
theorem S_bt {v : Bool} {q : Bool → Prop} (hp : v = true) (h : q true) : ∃ k, V.bl v = .bl k ∧ q k := ⟨true, by rw [hp], h⟩
theorem S_bf {v : Bool} {q : Bool → Prop} (hp : v = false) (h : q false) : ∃ k, V.bl v = .bl k ∧ q k := ⟨false, by rw [hp], h⟩
/-! sequences -/
theorem S_ixL {a : Addr} {xs : List V} {i : Int} {v : V} (s : SqL K H a xs) (e : atI xs i = some v) (h : Q v H) : rIxL K (.ref a) (.int i) H Q := ⟨a, xs, i, v, rfl, rfl, s, e, h⟩
theorem S_ixT {a : Addr} {xs : List V} {i : Int} {v : V} (s : SqT K H a xs) (e : atI xs i = some v) (h : Q v H) : rIxT K (.ref a) (.int i) H Q := ⟨a, xs, i, v, rfl, rfl, s, e, h⟩
theorem S_lenL {a : Addr} {xs : List V} {P : List V → Prop} (s : SqL K H a xs) (h : P xs) : ∃ p ys, [V.ref a] = [.ref p] ∧ (SqL K H p ys ∨ SqT K H p ys) ∧ P ys := ⟨a, xs, rfl, .inl s, h⟩
theorem S_lenT {a : Addr} {xs : List V} {P : List V → Prop} (s : SqT K H a xs) (h : P xs) : ∃ p ys, [V.ref a] = [.ref p] ∧ (SqL K H p ys ∨ SqT K H p ys) ∧ P ys := ⟨a, xs, rfl, .inr s, h⟩
theorem S_lenS {z : Str} {P : Str → Prop} (s : z.length ≤ sizeLine) (h : P z) : ∃ y, [V.str z] = [.str y] ∧ y.length ≤ sizeLine ∧ P y := ⟨z, rfl, s, h⟩
theorem S_slL {a : Addr} {xs : List V} {lo hi : Option Int} (s : SqL K H a xs) (h : NewO (.lst (cutV xs lo hi)) H Q) : rSlL K (.ref a) lo hi H Q := ⟨a, xs, rfl, s, h⟩
theorem S_listL {a : Addr} {xs : List V} (s : SqL K H a xs) (h : NewO (.lst xs) H Q) : rListOf K [.ref a] H Q := ⟨a, xs, rfl, .inl s, h⟩
theorem S_tupL {a : Addr} {xs : List V} (s : SqL K H a xs) (h : NewO (.tup xs) H Q) : rTupOf K [.ref a] H Q := ⟨a, xs, rfl, .inl ⟨s, h⟩⟩
theorem S_int {i : Int} {P : Int → Prop} {R : Bool → Prop} (h : P i) : (∃ j, [V.int i] = [.int j] ∧ P j) ∨ ∃ k, [V.int i] = [.bl k] ∧ R k := .inl ⟨i, rfl, h⟩
theorem S_intB {i : Bool} {P : Int → Prop} {R : Bool → Prop} (h : R i) : (∃ j, [V.bl i] = [.int j] ∧ P j) ∨ ∃ k, [V.bl i] = [.bl k] ∧ R k := .inr ⟨i, rfl, h⟩
/-! ### cells: what may change, of this call's own or of M -/
variable {M : Addr → Prop} {G0 H0 G G' H' : Hp}
structure Cl (M : Addr → Prop) (H0 G H : Hp) (o : Addr) (x : HO) : Prop where
  f : M o ∨ H0 o = none
  g : G o = none
  h : H o = some x
theorem Mt.cl {o : Addr} {x : HO} (m : Mt H0 G H o x) : Cl M H0 G H o x := ⟨.inr m.f, m.g, m.h⟩
theorem Cl.mt {o : Addr} {x : HO} (m : Cl M H0 G H o x) (f : H0 o = none) : Mt H0 G H o x := ⟨f, m.g, m.h⟩
theorem Cl.call {o : Addr} {x : HO} (m : Cl M H0 G H o x) (a : Adv0 G H G' H') : Cl M H0 G' H' o x := ⟨m.f, a.nw o m.g (by rw [m.h]; exact fun z => nomatch z), a.kp o x (fun z => z) m.h⟩
theorem Cl.callM {M' : Addr → Prop} {o : Addr} {x : HO} (m : Cl M H0 G H o x) (a : Adv M' G H G' H') (n : ¬ M' o) : Cl M H0 G' H' o x := ⟨m.f, a.nw o m.g (by rw [m.h]; exact fun z => nomatch z), a.kp o x n m.h⟩
theorem Cl.as {o : Addr} {x y : HO} (m : Cl M H0 G H o x) (e : x = y) : Cl M H0 G H o y := e ▸ m
theorem Cl.ne {o p : Addr} {x y : HO} (m : Cl M H0 G H o x) (m' : Cl M H0 G H p y) (e : x ≠ y) : o ≠ p := fun z => by
  subst z
  have := m.h.symm.trans m'.h
  exact e (Option.some.inj this)
theorem Cl.l {o : Addr} {xs : List V} (m : Cl M H0 G H o (.lst xs)) : SqL K H o xs := SqL.of m.h
/-- a new object that stands still -/
theorem S_newF {u : HO} (A : Adv M G0 H0 G H) (k : ∀ p G' H', Adv M G0 H0 G' H' → Same G G' → G' p = some u → (∀ o x, Cl M H0 G H o x → Cl M H0 G' H' o x) → Q (.ref p) H') :
    NewO u H Q := fun p np => k p _ _ (A.frz np) (same_new (A.freshG np)) upd_same fun o x m => by
  have n : o ≠ p := ne_of_none m.h np
  exact ⟨m.f, by rw [upd_ne n]; exact m.g, by rw [upd_ne n]; exact m.h⟩
/-- a new object that may change -/
theorem S_newM {u : HO} (A : Adv M G0 H0 G H) (k : ∀ p H', Adv M G0 H0 G H' → Cl M H0 G H' p u → H0 p = none → (∀ o x, Cl M H0 G H o x → Cl M H0 G H' o x ∧ o ≠ p) → Q (.ref p) H') :
    NewO u H Q := fun p np => k p _ (A.new np) ⟨.inr (A.fresh np), A.freshG np, upd_same⟩ (A.fresh np) fun o x m => by
  have n : o ≠ p := ne_of_none m.h np
  exact ⟨⟨m.f, m.g, by rw [upd_ne n]; exact m.h⟩, n⟩
/-- a cell is written -/
theorem S_wr {P : Hp → Prop} {o : Addr} {u y : HO} (A : Adv M G0 H0 G H) (m : Cl M H0 G H o u) (k : ∀ H', Adv M G0 H0 G H' → Cl M H0 G H' o y → (∀ o' x, Cl M H0 G H o' x → o' ≠ o → Cl M H0 G H' o' x) → P H') : WrO P H o y :=
  k _ (A.wr m.g m.f) ⟨m.f, m.g, upd_same⟩ fun o' x m' n => ⟨m'.f, m'.g, by rw [upd_ne n]; exact m'.h⟩
theorem S_app {o : Addr} {xs : List V} {v : V} (A : Adv M G0 H0 G H) (m : Cl M H0 G H o (.lst xs)) (l : xs.length < 16777216) (k : ∀ H', Adv M G0 H0 G H' → Cl M H0 G H' o (.lst (xs ++ [v])) → (∀ o' x, Cl M H0 G H o' x → o' ≠ o → Cl M H0 G H' o' x) → Q .non H') :
    tyV K "list" (.ref o) H ∧ rAppend (.ref o) [v] H Q := ⟨.inl ⟨rfl, xs, m.l⟩, o, xs, v, rfl, rfl, m.h, line_lt l, S_wr (P := Q .non) A m k⟩
theorem S_app' {o : Addr} {xs : List V} {v : V} (A : Adv M G0 H0 G H) (m : Cl M H0 G H o (.lst xs)) (l : xs.length < 16777216) (k : ∀ H', Adv M G0 H0 G H' → Cl M H0 G H' o (.lst (xs ++ [v])) → (∀ o' x, Cl M H0 G H o' x → o' ≠ o → Cl M H0 G H' o' x) → Q .non H') :
    rAppend (.ref o) [v] H Q := ⟨o, xs, v, rfl, rfl, m.h, line_lt l, S_wr (P := Q .non) A m k⟩
theorem S_ext {o e : Addr} {xs ys : List V} (A : Adv M G0 H0 G H) (m : Cl M H0 G H o (.lst xs)) (he : H e = some (.lst ys)) (l : xs.length + ys.length ≤ 16777216) (k : ∀ H', Adv M G0 H0 G H' → Cl M H0 G H' o (.lst (xs ++ ys)) → (∀ o' x, Cl M H0 G H o' x → o' ≠ o → Cl M H0 G H' o' x) → Q .non H') :
    rExtend (.ref o) [.ref e] H Q := ⟨o, e, xs, ys, rfl, rfl, m.h, he, line_le l, S_wr (P := Q .non) A m k⟩
theorem S_ty {o : Addr} {xs : List V} {R : Prop} (s : SqL K H o xs) (h : R) : tyV K "list" (.ref o) H ∧ R := ⟨.inl ⟨rfl, xs, s⟩, h⟩
theorem S_cat {a e : Addr} {xs ys : List V} (ha : H a = some (.lst xs)) (he : H e = some (.lst ys)) (l : xs.length + ys.length ≤ 16777216) (k : NewO (.lst (xs ++ ys)) H Q) : rCat (.ref a) (.ref e) H Q := ⟨a, e, xs, ys, rfl, rfl, ha, he, line_le l, k⟩
theorem Adv.at {a : Addr} {u : HO} (A : Adv M G0 H0 G H) (e : G a = some u) : H a = some u := A.gh _ _ e
/-! fields of the own object -/
theorem S_gf {a C : Addr} {dx : Addr} {fs : List (Str × V)} {f : Str} {v : V} {P : V → Prop} (m : H a = some (.ins C dx fs)) (cl : Cls K C) (na : NoAttr K C f) (e : fs.lookup f = some v) (h : P v) :
    ∃ p C dx fs v, V.ref a = .ref p ∧ H p = some (.ins C dx fs) ∧ Cls K C ∧ NoAttr K C f ∧ fs.lookup f = some v ∧ P v := ⟨a, C, dx, fs, v, rfl, m, cl, na, e, h⟩
theorem S_sfld {ta tv : TE} {f : Str} (h : tv σ H fun y H1 => ta σ H1 fun x H2 => ∃ a C dx fs, x = .ref a ∧ H2 a = some (.ins C dx fs) ∧ Cls K C ∧ NoAttr K C f ∧ fs.length < 1000 ∧ WrO (n σ) H2 a (.ins C dx (putF f y fs))) : sFld K ta tv f ⟨n, r, b, c⟩ σ H := h
theorem S_sf {a C : Addr} {dx : Addr} {fs fs' : List (Str × V)} {f : Str} {y : V} {P : Hp → Prop} (A : Adv M G0 H0 G H) (m : Cl M H0 G H a (.ins C dx fs)) (cl : Cls K C) (na : NoAttr K C f) (l : fs.length < 1000) (e : putF f y fs = fs')
    (k : ∀ H', Adv M G0 H0 G H' → Cl M H0 G H' a (.ins C dx fs') → (∀ o' x, Cl M H0 G H o' x → o' ≠ a → Cl M H0 G H' o' x) → P H') :
    ∃ p C dx fs, V.ref a = .ref p ∧ H p = some (.ins C dx fs) ∧ Cls K C ∧ NoAttr K C f ∧ fs.length < 1000 ∧ WrO P H p (.ins C dx (putF f y fs)) := ⟨a, C, dx, fs, rfl, m.h, cl, na, l, by rw [e]; exact S_wr (P := P) A m k⟩
end
theorem most_at {K : PySem.W.Frag} {f : Nat} {m : Int} (h : mostV[f]? = some (.int m)) : (mostV.map (He.Dv.v K))[f]? = some (V.int m) := by
  rw [List.getElem?_map, h]
  rfl
theorem atI_n {α : Type} {xs : List α} {i : Int} {j : Nat} {v : α} (e : i = (j : Nat)) (h : xs[j]? = some v) : atI xs i = some v := by
  rw [e]
  exact atI_nat h
theorem get_map {α β : Type} {f : α → β} {xs : List α} {i : Nat} {x : α} (h : xs[i]? = some x) : (xs.map f)[i]? = some (f x) := by rw [List.getElem?_map, h]; rfl
theorem get_map_inv {α β : Type} {f : α → β} {xs : List α} {i : Nat} {v : β} (h : (xs.map f)[i]? = some v) : ∃ x, xs[i]? = some x ∧ v = f x := by
  rw [List.getElem?_map] at h
  obtain ⟨x, h1, h2⟩ := Option.map_eq_some_iff.mp h
  exact ⟨x, h1, h2.symm⟩
theorem drop_cons {α : Type} {xs : List α} {i : Nat} {x : α} (h : xs[i]? = some x) : xs.drop i = x :: xs.drop (i + 1) := by
  obtain ⟨h1, h2⟩ := List.getElem?_eq_some_iff.mp h
  rw [← h2]
  exact List.drop_eq_getElem_cons h1
theorem take_snoc {α : Type} {xs : List α} {i : Nat} {x : α} (h : xs[i]? = some x) : xs.take (i + 1) = xs.take i ++ [x] := by
  rw [List.take_add_one, h]
  rfl
/-! comprehensions -/
section
variable {K : PySem.W.Frag} {G H : Hp} {σ : L2.St} {g : TG} {tt : TT} {te : TE} {vs : List Nat} {Q : VK}
theorem S_lcL {a : Addr} {xs : List V} {ds : List PyData} (f : PyData → Option PyData) (sG : Same G H) (ha : G a = some (.lst xs)) (hr : RpL G xs ds) (hn : ds.length ≤ 100000)
    (hs : ∀ (i : Nat) (x : V) (d : PyData) (G1 H1 : Hp), xs[i]? = some x → ds[i]? = some d → Adv0 G H G1 H1 → Rp G1 x d → ∀ (Qy : VK) (Qn : Hp → Prop),
      (∀ e, f d = some e → ∀ y G2 H2, Adv0 G1 H1 G2 H2 → Rp G2 y e → Qy y H2) → (f d = none → ∀ G2 H2, Adv0 G1 H1 G2 H2 → Qn H2) →
      g x (wipe σ vs) H1 fun σ2 H2 => wipe σ2 vs = wipe σ vs ∧ tt σ2 H2 fun b H3 => if b = true then te σ2 H3 Qy else Qn H3)
    (q : PostL G H Q (ds.filterMap f)) : LcR g tt te vs σ (Itl K a) H Q := fun D hD => lcD f sG ha hr hn (fun i x d G1 H1 hx hd A Qy Qn k1 k2 => hs i x d G1 H1 hx hd A (by
      obtain ⟨d', e, r⟩ := hr.getV hx
      rw [hd] at e
      cases e
      exact r.mono A.gg) Qy Qn k1 k2) q D hD
theorem S_lcR {n : Nat} (f : Nat → PyData) (sG : Same G H) (hn : n ≤ 100000)
    (hs : ∀ (i : Nat) (G1 H1 : Hp), i < n → Adv0 G H G1 H1 → ∀ (Qy : VK), (∀ y G2 H2, Adv0 G1 H1 G2 H2 → Rp G2 y (f i) → Qy y H2) →
      g (.int (0 + (i : Nat))) (wipe σ vs) H1 fun σ2 H2 => wipe σ2 vs = wipe σ vs ∧ te σ2 H2 Qy)
    (q : PostL G H Q ((List.range n).map f)) : LcR g tYes te vs σ (Itr 0 n) H Q := fun D hD => lcR f sG hn hs q D hD
theorem S_lcS {z : Str} (f : Nat → PyData) (sG : Same G H) (hn : z.length ≤ 100000)
    (hs : ∀ (i c : Nat) (G1 H1 : Hp), z.cps.toList[i]? = some c → Adv0 G H G1 H1 → ∀ (Qy : VK), (∀ y G2 H2, Adv0 G1 H1 G2 H2 → Rp G2 y (f c) → Qy y H2) →
      g (.str ⟨#[c]⟩) (wipe σ vs) H1 fun σ2 H2 => wipe σ2 vs = wipe σ vs ∧ te σ2 H2 Qy)
    (q : PostL G H Q (z.cps.toList.map f)) : LcR g tYes te vs σ (Its z) H Q := fun D hD => by
  have a0 : Adv0 G H G H := .refl sG
  refine ⟨fun i m H1 => m = z.cps.size - i ∧ i ≤ z.cps.size ∧ ∃ G1 acc, Adv0 G H G1 H1 ∧ Mt H G1 H1 D (.lst acc) ∧ RpL G1 acc ((z.cps.toList.take i).map f), ⟨_, rfl, Nat.zero_le _, G, [], a0.new hD, .mk_new a0 hD, .nil⟩, ?_⟩
  rintro i m H1 ⟨rfl, hi, G1, acc, A, m, r⟩
  by_cases lt : i < z.cps.size
  · refine .inr ⟨lt, fun H1 => ∃ G1 acc, Adv0 G H G1 H1 ∧ Mt H G1 H1 D (.lst acc) ∧ RpL G1 acc ((z.cps.toList.take (i + 1)).map f), fun H' p' => ⟨z.cps.size - (i + 1), by omega, rfl, lt, p'⟩, fun x H' y => ?_⟩
    obtain ⟨e, c, hc, ev⟩ := y
    subst e ev
    have hc' : z.cps.toList[i]? = some c := by rw [Array.getElem?_toList]; exact hc
    refine (?_ : g (.str ⟨#[c]⟩) (wipe σ vs) _ fun σ2 H2 => wipe σ2 vs = wipe σ vs ∧ te σ2 H2 fun y H4 => _)
    refine hs i c G1 _ hc' A _ fun y G2 H2 A2 ry => ?_
    have m2 := m.call A2
    have la : acc.length ≤ i := by
      have z := r.len
      rw [List.length_map, List.length_take] at z
      omega
    have lz : z.cps.size ≤ 100000 := hn
    refine ⟨acc, m2.h, line_lt (by omega), G2, acc ++ [y], m2.wrA (A.call A2), m2.wr, ?_⟩
    rw [take_snoc hc', List.map_append]
    exact (r.mono A2.gg).snoc ry
  · have e : i = z.cps.size := by omega
    subst e
    have ht : z.cps.toList.take z.cps.size = z.cps.toList := List.take_of_length_le (by simp)
    rw [ht] at r
    have A2 := A.still m.f m.h m.g
    exact .inl ⟨Nat.le_refl _, q D _ H1 acc A2 upd_same (r.mono (same_new m.g))⟩
/-- for over a str -/
theorem S_join {K : PySem.W.Frag} {p : Addr} {a : Str} {ys : List Str} (s : SqL K H p (ys.map V.str)) (l : (ys.map (·.length)).sum + ys.length * a.length ≤ 16777216) (h : Q (.str (Txt.join a ys)) H) :
    ∃ b q, ∃ zs : List Str, V.str a = .str b ∧ [V.ref p] = [.ref q] ∧ (SqL K H q (zs.map V.str) ∨ SqT K H q (zs.map V.str)) ∧ (zs.map (·.length)).sum + zs.length * b.length ≤ 16777216 ∧ Q (.str (Txt.join b zs)) H := ⟨a, p, ys, rfl, rfl, .inl s, l, h⟩
end
section
variable {K : PySem.W.Frag} {G0 H0 G H : Hp} {M : Addr → Prop} {Q : VK}
theorem S_postI {bs : List Int} (A : Adv M G0 H0 G H) (k : ∀ p G' H', Adv M G0 H0 G' H' → Adv0 G H G' H' → G' p = some (.lst (bs.map V.int)) → Q (.ref p) H') : Post G H Q fun v G' => Rp G' v (IntsD bs) := fun v G' H' a rv => by
  obtain ⟨p, rfl, hp⟩ := rv.ints
  exact k p G' H' (A.call a) a hp
theorem S_catF {a e : Addr} {xs ys : List Int} (A : Adv M G0 H0 G H) (ha : G a = some (.lst (xs.map V.int))) (he : G e = some (.lst (ys.map V.int))) (l : xs.length + ys.length ≤ 16777216)
    (k : ∀ p G' H', Adv M G0 H0 G' H' → Same G G' → G' p = some (.lst ((xs ++ ys).map V.int)) → (∀ o x, Cl M H0 G H o x → Cl M H0 G' H' o x) → Q (.ref p) H') : rCat (.ref a) (.ref e) H Q :=
  S_cat (A.at ha) (A.at he) (by rw [List.length_map, List.length_map]; exact l) (by
    rw [← List.map_append]
    exact S_newF A k)
theorem S_ord {y : Str} {P : Str → Prop} (e : y.length = 1) (h : P y) : ∃ x, [V.str y] = [.str x] ∧ x.length = 1 ∧ P x := ⟨y, rfl, e, h⟩
end
/-! data that may be compared -/
def Shp (n : Nat) (d : PyData) : Prop := d.canLay0 = true ∧ d.depth ≤ n
theorem Shp.shaped {n : Nat} {d : PyData} (h : Shp n d) (hn : n ≤ 64) : SeqAt.shaped d = true := by
  unfold SeqAt.shaped
  rw [h.1, Bool.true_and]
  exact decide_eq_true (Nat.le_trans h.2 hn)
theorem Shp.int (n : Nat) (i : Int) : Shp n (.int i) := ⟨rfl, Nat.zero_le _⟩
theorem Shp.bl (n : Nat) (i : Bool) : Shp n (.bool i) := ⟨rfl, Nat.zero_le _⟩
theorem Shp.str (n : Nat) {z : Str} (h : PyData.strOk z = true) : Shp n (.str z) := ⟨h, Nat.zero_le _⟩
theorem shp_all {n : Nat} : ∀ {ds : List PyData}, (∀ d ∈ ds, Shp n d) → PyData.canLayAll0 ds = true ∧ PyData.depthAll ds ≤ n
  | [], _ => ⟨rfl, Nat.zero_le _⟩
  | d :: ds, h => by
    obtain ⟨h1, h2⟩ := shp_all fun x hx => h x (List.mem_cons_of_mem _ hx)
    obtain ⟨h3, h4⟩ := h d List.mem_cons_self
    exact ⟨by rw [PyData.canLayAll0, h3, h1]; rfl, by rw [PyData.depthAll]; exact Nat.max_le.mpr ⟨h4, h2⟩⟩
theorem Shp.list {n : Nat} {ds : List PyData} (h : ∀ d ∈ ds, Shp n d) : Shp (n + 1) (.list ds) := ⟨(shp_all h).1, Nat.succ_le_succ (shp_all h).2⟩
theorem Shp.tup {n : Nat} {ds : List PyData} (h : ∀ d ∈ ds, Shp n d) : Shp (n + 1) (.tuple ds) := ⟨(shp_all h).1, Nat.succ_le_succ (shp_all h).2⟩
theorem Shp.ints (n : Nat) (ns : List Int) : Shp (n + 1) (IntsD ns) := .list fun d hd => by
  obtain ⟨i, _, rfl⟩ := List.mem_map.mp hd
  exact .int _ _
theorem Shp.eqv {n : Nat} {d : PyData} (h : Shp n d) : PyData.eqv d d = true := SeqAt.eqv_refl d h.1
theorem shp_nil {n : Nat} : ∀ d ∈ ([] : List PyData), Shp n d := fun _ h => nomatch h
theorem shp_cons {n : Nat} {x : PyData} {xs : List PyData} (h : Shp n x) (t : ∀ d ∈ xs, Shp n d) : ∀ d ∈ x :: xs, Shp n d := fun d hd => (List.mem_cons.mp hd).elim (fun e => e ▸ h) (t d)
section
variable {K : PySem.W.Frag} {H : Hp} {Q : VK} {σ : L2.St}
theorem S_yes {q : Bool → Hp → Prop} (h : q true H) : tYes σ H q := h
theorem S_ss {a b : Str} {P : Str → Str → Prop} (h : P a b) : ∃ i j, V.str a = .str i ∧ V.str b = .str j ∧ P i j := ⟨a, b, rfl, rfl, h⟩
theorem S_all {a : Addr} {bs : List Bool} (s : SqL K H a (bs.map V.bl)) (e : bs.all id = true) (h : Q (.bl true) H) : rAll K [.ref a] H Q := ⟨a, bs, rfl, s, by rw [e]; exact h⟩
theorem all_true {α : Type} (xs : List α) : (xs.map fun _ => true).all id = true := by simp
end
theorem chr_lt {c d : Nat} : (⟨#[c]⟩ : Str).cps.toList < (⟨#[d]⟩ : Str).cps.toList ↔ c < d := by
  show [c] < [d] ↔ c < d
  constructor
  · intro h
    cases h with
    | rel h => exact h
    | cons h => exact absurd h (List.not_lt_nil _)
  · exact fun h => .rel h
section
variable {K : PySem.W.Frag} {H : Hp} {Q : VK} {σ : L2.St} {M : Addr → Prop} {G0 H0 G G' H' : Hp}
/-! objects made, methods called -/
def MkO (C : Addr) (sp : Sp) (vs : List V) (E : XK) (H : Hp) (Q : VK) : Prop := ∀ x dx, H x = none → H dx = none → dx ≠ x → sp (.ref x :: vs) (upd (upd H dx (.own x)) x (.ins C dx [])) (fun v H2 => v = .non ∧ Q (.ref x) H2) E
theorem S_make {C : Addr} {sp : Sp} {dvs : List V} {E : XK} {t : TA} (h : t σ H fun vs H1 => MkO C sp (vs ++ dvs) E H1 Q) : tMake C sp dvs E t σ H Q := h
theorem S_mk {C : Addr} {sp : Sp} {vs : List V} {E : XK} (A : Adv M G0 H0 G H) (k : ∀ x dx H1, Adv M G0 H0 G H1 → Cl M H0 G H1 x (.ins C dx []) → H0 x = none → (∀ o y, Cl M H0 G H o y → Cl M H0 G H1 o y ∧ o ≠ x) → sp (.ref x :: vs) H1 (fun v H2 => v = .non ∧ Q (.ref x) H2) E) : MkO C sp vs E H Q := fun x dx hx hd ne => by
  have A1 := A.new (u := .own x) hd
  have hx1 : upd H dx (.own x) x = none := by rw [upd_ne (Ne.symm ne)]; exact hx
  have A2 := A1.new (u := .ins C dx []) hx1
  refine k x dx _ A2 ⟨.inr (A.fresh hx), A.freshG hx, upd_same⟩ (A.fresh hx) fun o y m => ?_
  have n : o ≠ x := ne_of_none m.h hx
  have n2 : o ≠ dx := ne_of_none m.h hd
  exact ⟨⟨m.f, m.g, by rw [upd_ne n, upd_ne n2]; exact m.h⟩, n⟩
theorem S_meth {C : Addr} {m : Str} {sp : Sp} {dvs : List V} {E : XK} {ta : TE} {t : TA} (h : ta σ H fun x H1 => ∃ a dx fs, x = .ref a ∧ H1 a = some (.ins C dx fs) ∧ fs.lookup m = none ∧ t σ H1 fun vs H2 => sp (x :: (vs ++ dvs)) H2 Q E) : tMeth C m sp dvs E ta t σ H Q := h
theorem S_me {C : Addr} {a dx : Addr} {fs : List (Str × V)} {m : Str} {P : Prop} (c : H a = some (.ins C dx fs)) (e : fs.lookup m = none) (h : P) : ∃ b dx fs, V.ref a = .ref b ∧ H b = some (.ins C dx fs) ∧ fs.lookup m = none ∧ P := ⟨a, dx, fs, rfl, c, e, h⟩
/-- behind a method of the object at o -/
theorem Cl.meth {o : Addr} {x y : HO} (co : Cl M H0 G H o x) (B : Adv (· = o) G H G' H') (h : H' o = some y) : Cl M H0 G' H' o y := ⟨co.f, B.nw o co.g (by rw [co.h]; exact fun z => nomatch z), h⟩
theorem Cl.trans {o : Addr} {x : HO} (co : Cl M H0 G H o x) (A : Adv M G0 H0 G H) (B : Adv (· = o) G H G' H') : Adv M G0 H0 G' H' := A.trans B fun q e => by
  subst e
  exact co.f
end
theorem S_nn {R : Prop} (h : R) : V.non = V.non ∧ R := ⟨rfl, h⟩
theorem S_rnt {a : Addr} {q : Bool → Prop} (h : q true) : ∃ k, V.bl (!decide (V.ref a = V.non)) = .bl k ∧ q k := S_nt (fun z => nomatch z) h
theorem S_nnf {q : Bool → Prop} (h : q false) : ∃ k, V.bl (!decide (V.non = V.non)) = .bl k ∧ q k := S_nf rfl h
theorem S_rdf {a : Addr} {q : Bool → Prop} (h : q false) : ∃ k, V.bl (decide (V.ref a = V.non)) = .bl k ∧ q k := S_df (fun z => nomatch z) h
theorem S_ndt {q : Bool → Prop} (h : q true) : ∃ k, V.bl (decide (V.non = V.non)) = .bl k ∧ q k := S_dt rfl h
theorem hu1_of {k : Nat} {A : Around} (r : Room k A) : A.units + 1 < cLine := by have := r.un; omega
theorem hu65_of {k : Nat} {A : Around} (r : Room k A) : A.units + 65 < cLine := by have := r.un; omega
section
variable {H : Hp} {Q : VK} {σ : L2.St} {n : L2.St → Hp → Prop} {r : VK} {b c : L2.St → Hp → Prop} {M : Addr → Prop} {G0 H0 G : Hp}
def DputR (P : Hp → Prop) (x y v : V) (H : Hp) : Prop := ∃ a H4, x = .ref a ∧ DPut H a y v H4 ∧ P H4
theorem S_dput {td ty tv : TE} (h : tv σ H fun v H1 => td σ H1 fun x H2 => ty σ H2 fun y H3 => DputR (n σ) x y v H3) : sDPut td ty tv ⟨n, r, b, c⟩ σ H := h
theorem S_dpk {P : Hp → Prop} {a : Addr} {kvs : List (Key × V)} {i : Int} {v : V} (A : Adv M G0 H0 G H) (m : Cl M H0 G H a (.dK kvs)) (l : kvs.length < 16777216)
    (k : ∀ H', Adv M G0 H0 G H' → Cl M H0 G H' a (.dK (putK kvs (.inl i) v)) → (∀ o' x, Cl M H0 G H o' x → o' ≠ a → Cl M H0 G H' o' x) → P H') : DputR P (.ref a) (.int i) v H :=
  ⟨a, _, rfl, DPut.k (k := .inl i) m.h (line_lt l), S_wr (P := P) A m k⟩
def DgetR (a : Addr) (y d : V) (H : Hp) (Q : VK) : Prop := ∃ o, DGet H a y o ∧ Q (o.getD d) H
theorem S_dget1 {td ty : TE} (h : td σ H fun x H1 => ∃ a, x = .ref a ∧ IsD H1 a ∧ ty σ H1 fun y H2 => DgetR a y .non H2 Q) : tDGet1 td ty σ H Q := h
theorem S_dget2 {td ty tx : TE} (h : td σ H fun x H1 => ∃ a, x = .ref a ∧ IsD H1 a ∧ ty σ H1 fun y H2 => tx σ H2 fun z H3 => DgetR a y z H3 Q) : tDGet2 td ty tx σ H Q := h
theorem S_isd {a : Addr} {kvs : List (Key × V)} {P : Addr → Prop} (e : H a = some (.dK kvs)) (h : P a) : ∃ p, V.ref a = .ref p ∧ IsD H p ∧ P p := ⟨a, rfl, .inl ⟨kvs, .inl e⟩, h⟩
theorem S_dgk {a : Addr} {kvs : List (Key × V)} {i : Int} {d : V} {o : Option V} (e : H a = some (.dK kvs)) (v : valV kvs (.inl i) = o) (h : Q (o.getD d) H) : DgetR a (.int i) d H Q := ⟨o, v ▸ DGet.k (k := .inl i) e, h⟩
theorem S_dnew (h : NewO (.dK []) H Q) : tDNewK σ H Q := h
def DsetR (a : Addr) (y z : V) (H : Hp) (Q : VK) : Prop := ∃ (kvs : List (Key × V)) (k : Key), H a = some (.dK kvs) ∧ y = kV k ∧ kvs.length < sizeLine ∧ (∀ v, valV kvs k = some v → Q v H) ∧ (valV kvs k = none → Q z (upd H a (.dK (putK kvs k z))))
theorem S_dsetd {td ty tx : TE} (h : td σ H fun x H1 => ∃ a, x = .ref a ∧ IsD H1 a ∧ ty σ H1 fun y H2 => tx σ H2 fun z H3 => DsetR a y z H3 Q) : tDSetd td ty tx σ H Q := h
/-- a list of new lists that may change -/
theorem S_lcC {K : PySem.W.Frag} {vs : List Nat} {a : Addr} {xs : List V} {i : Nat} (sG : Same G H) (ha : G a = some (.lst xs)) (hn : xs.length ≤ 1000) (hw : ∀ v, wipe ((wipe σ vs).set i (some v)) vs = wipe σ vs)
    (q : ∀ D G' H' (cs : List Addr), Adv0 G H G' H' → G' D = some (.lst (cs.map V.ref)) → cs.length = xs.length → cs.Nodup → (∀ c ∈ cs, H c = none ∧ G' c = none ∧ H' c = some (.lst [])) → Q (.ref D) H') :
    LcR (gName i) tYes (tLst tNil) vs σ (Itl K a) H Q := fun D hD => by
  have a0 : Adv0 G H G H := .refl sG
  refine lc_list (xs := xs) (Qd := Q (.ref D)) (fun i H1 => ∃ cs : List Addr, Adv0 G H G H1 ∧ Mt H G H1 D (.lst (cs.map V.ref)) ∧ cs.length = i ∧ cs.Nodup ∧ ∀ c ∈ cs, c ≠ D ∧ Mt H G H1 c (.lst []))
    ⟨[], a0.new hD, .mk_new a0 hD, rfl, List.nodup_nil, fun _ z => nomatch z⟩ (fun i H1 _ ⟨cs, A, _⟩ => A.l ha) (fun i x H1 hx ⟨cs, A, m, hl, nd, hc⟩ => ?_) (fun H1 ⟨cs, A, m, hl, nd, hc⟩ => ?_)
  · have hi : i < xs.length := (List.getElem?_eq_some_iff.mp hx).1
    refine ⟨hw x, Nat.zero_le _, fun c nc => ?_⟩
    have m1 := m.new (u := .lst []) nc
    have A1 := A.new (u := .lst []) nc
    have ncD : c ≠ D := (ne_of_none m.h nc).symm
    refine ⟨cs.map V.ref, m1.h, line_lt (by rw [List.length_map]; omega), cs ++ [c], m1.wrA A1, ?_, by simp [hl], ?_, fun c' hc' => ?_⟩
    · rw [List.map_append]
      exact m1.wr
    · rw [List.nodup_append]
      refine ⟨nd, by simp, fun x hx y hy => ?_⟩
      rw [List.mem_singleton.mp hy]
      exact ne_of_none (hc x hx).2.h nc
    · rcases List.mem_append.mp hc' with hc' | hc'
      · obtain ⟨h1, h2⟩ := hc c' hc'
        exact ⟨h1, (h2.new nc).oth h1⟩
      · rw [List.mem_singleton.mp hc']
        exact ⟨ncD, (Mt.mk_new A nc).oth ncD⟩
  · have A2 := A.still m.f m.h m.g
    refine q D _ H1 cs A2 upd_same hl nd fun c hcc => ?_
    obtain ⟨h1, h2⟩ := hc c hcc
    exact ⟨h2.f, by rw [upd_ne h1]; exact h2.g, h2.h⟩
end
section
variable {H : Hp} {σ : L2.St} {n : L2.St → Hp → Prop} {r : VK} {b c : L2.St → Hp → Prop}
theorem S_forC {lo d : Int} {k : Nat} {g : TG} {tb : TS} (Pv : Nat → L2.St → Hp → Prop) (h0 : Pv 0 σ H)
    (hs : ∀ i σ H, i < k → Pv i σ H → g (.int (lo + (i : Nat) * d)) σ H fun σ2 H2 => tb ⟨Pv (i + 1), r, n, Pv (i + 1)⟩ σ2 H2) (hd : ∀ σ H, Pv k σ H → n σ H) : ForR g tb ⟨n, r, b, c⟩ σ (Itc lo d k) H := for_rangeC (D := ⟨n, r, b, c⟩) Pv h0 hs hd
def Rn3 (R : It → Hp → Prop) (vs : List V) (H : Hp) : Prop := ∃ (i j c : Int) (n : Nat), vs = [.int i, .int j, .int c] ∧ RgC i j c n ∧ R (Itc i c n) H
theorem S_ir3 {ta : TA} {R : It → Hp → Prop} (h : ta σ H fun vs H1 => Rn3 R vs H1) : iRng3 ta σ H R := h
theorem S_rn3 {i j : Int} {k : Nat} {R : It → Hp → Prop} (e : (i - j).toNat = k) (l : 0 ≤ i ∧ i ≤ 16777216 ∧ 0 ≤ j ∧ j ≤ 16777216) (h : R (Itc i (-1) k) H) : Rn3 R [.int i, .int j, .int (-1)] H := ⟨i, j, -1, _, rfl, RgC.neg (by omega) (by omega) (by omega) (by omega), by rw [e]; exact h⟩
end
/-! rules inside a comprehension: the frame named -/
abbrev rLenQ (K : PySem.W.Frag) : List V → Hp → VK → Prop := fun xs H Q => ∃ p ys, xs = [.ref p] ∧ (SqL K H p ys ∨ SqT K H p ys) ∧ Q (.int ys.length) H
theorem pg_tupK {X : Cx} {K : PySem.W.Frag} (e : X.K = K) {es : List Expr} {k : Nat} {pos : Pos} {t : TGs} {n : Nat} (hc : X.calm = true) (h : PGs X es t)
    (hn : (assignEach es X.env).length = n := by rfl) (hst : (assignEach es X.env).findIdx? (·.1) = none := by rfl) : PG X (.Tuple es k pos) (gTup K n t) := e ▸ pg_tup hc h hn hst
theorem pi_listK {X : Cx} {K : PySem.W.Frag} (e : X.K = K) {tg l : Expr} {tl : TE} (hl : PE X l tl) : PI X tg l (iList K tl) := e ▸ pi_list hl
end Sp
namespace Sp
open PySem PySem.Spec PyProof.Rows L2
section
variable {K : PySem.W.Frag} {mg : Str → Option Value} {M : Addr → Prop} {G0 H0 G H : Hp} {a dx : Addr}
abbrev fs_BodyReader (v0 v1 : V) : List (Str × V) := [("body", v0), ("at", v1)]
theorem gf_BodyReader_body {KK : PySem.W.Frag} (e : K = KK) (T : Facts K mg) {v0 v1 : V} {P : V → Prop} (m : H a = some (.ins (cA K "BodyReader") dx (fs_BodyReader v0 v1))) (h : P v0) : ∃ p C dx fs v, V.ref a = .ref p ∧ H p = some (.ins C dx fs) ∧ Cls KK C ∧ NoAttr KK C "body" ∧ fs.lookup ("body" : Str) = some v ∧ P v := e ▸ ⟨a, _, dx, _, _, rfl, m, T.cl_BodyReader, T.na_BodyReader_body, rfl, h⟩
theorem sf_BodyReader_body (T : Facts K mg) {v0 v1 y : V} {P : Hp → Prop} (A : Adv M G0 H0 G H) (m : Cl M H0 G H a (.ins (cA K "BodyReader") dx (fs_BodyReader v0 v1))) (k : ∀ H', Adv M G0 H0 G H' → Cl M H0 G H' a (.ins (cA K "BodyReader") dx (fs_BodyReader y v1)) → (∀ o' x, Cl M H0 G H o' x → o' ≠ a → Cl M H0 G H' o' x) → P H') : ∃ p C dx fs, V.ref a = .ref p ∧ H p = some (.ins C dx fs) ∧ Cls K C ∧ NoAttr K C "body" ∧ fs.length < 1000 ∧ WrO P H p (.ins C dx (putF "body" y fs)) := S_sf A m T.cl_BodyReader T.na_BodyReader_body (by simp only [List.length_cons, List.length_nil]; omega) rfl k
theorem gf_BodyReader_at {KK : PySem.W.Frag} (e : K = KK) (T : Facts K mg) {v0 v1 : V} {P : V → Prop} (m : H a = some (.ins (cA K "BodyReader") dx (fs_BodyReader v0 v1))) (h : P v1) : ∃ p C dx fs v, V.ref a = .ref p ∧ H p = some (.ins C dx fs) ∧ Cls KK C ∧ NoAttr KK C "at" ∧ fs.lookup ("at" : Str) = some v ∧ P v := e ▸ ⟨a, _, dx, _, _, rfl, m, T.cl_BodyReader, T.na_BodyReader_at, rfl, h⟩
theorem sf_BodyReader_at (T : Facts K mg) {v0 v1 y : V} {P : Hp → Prop} (A : Adv M G0 H0 G H) (m : Cl M H0 G H a (.ins (cA K "BodyReader") dx (fs_BodyReader v0 v1))) (k : ∀ H', Adv M G0 H0 G H' → Cl M H0 G H' a (.ins (cA K "BodyReader") dx (fs_BodyReader v0 y)) → (∀ o' x, Cl M H0 G H o' x → o' ≠ a → Cl M H0 G H' o' x) → P H') : ∃ p C dx fs, V.ref a = .ref p ∧ H p = some (.ins C dx fs) ∧ Cls K C ∧ NoAttr K C "at" ∧ fs.length < 1000 ∧ WrO P H p (.ins C dx (putF "at" y fs)) := S_sf A m T.cl_BodyReader T.na_BodyReader_at (by simp only [List.length_cons, List.length_nil]; omega) rfl k
abbrev fs_LeafReader (v0 v1 v2 v3 v4 v5 v6 v7 v8 v9 v10 : V) : List (Str × V) := [("data", v0), ("at", v1), ("scan", v2), ("count", v3), ("stamp", v4), ("last", v5), ("head", v6), ("tags", v7), ("entries", v8), ("units", v9), ("places", v10)]
theorem gf_LeafReader_data {KK : PySem.W.Frag} (e : K = KK) (T : Facts K mg) {v0 v1 v2 v3 v4 v5 v6 v7 v8 v9 v10 : V} {P : V → Prop} (m : H a = some (.ins (cA K "LeafReader") dx (fs_LeafReader v0 v1 v2 v3 v4 v5 v6 v7 v8 v9 v10))) (h : P v0) : ∃ p C dx fs v, V.ref a = .ref p ∧ H p = some (.ins C dx fs) ∧ Cls KK C ∧ NoAttr KK C "data" ∧ fs.lookup ("data" : Str) = some v ∧ P v := e ▸ ⟨a, _, dx, _, _, rfl, m, T.cl_LeafReader, T.na_LeafReader_data, rfl, h⟩
theorem sf_LeafReader_data (T : Facts K mg) {v0 v1 v2 v3 v4 v5 v6 v7 v8 v9 v10 y : V} {P : Hp → Prop} (A : Adv M G0 H0 G H) (m : Cl M H0 G H a (.ins (cA K "LeafReader") dx (fs_LeafReader v0 v1 v2 v3 v4 v5 v6 v7 v8 v9 v10))) (k : ∀ H', Adv M G0 H0 G H' → Cl M H0 G H' a (.ins (cA K "LeafReader") dx (fs_LeafReader y v1 v2 v3 v4 v5 v6 v7 v8 v9 v10)) → (∀ o' x, Cl M H0 G H o' x → o' ≠ a → Cl M H0 G H' o' x) → P H') : ∃ p C dx fs, V.ref a = .ref p ∧ H p = some (.ins C dx fs) ∧ Cls K C ∧ NoAttr K C "data" ∧ fs.length < 1000 ∧ WrO P H p (.ins C dx (putF "data" y fs)) := S_sf A m T.cl_LeafReader T.na_LeafReader_data (by simp only [List.length_cons, List.length_nil]; omega) rfl k
theorem gf_LeafReader_at {KK : PySem.W.Frag} (e : K = KK) (T : Facts K mg) {v0 v1 v2 v3 v4 v5 v6 v7 v8 v9 v10 : V} {P : V → Prop} (m : H a = some (.ins (cA K "LeafReader") dx (fs_LeafReader v0 v1 v2 v3 v4 v5 v6 v7 v8 v9 v10))) (h : P v1) : ∃ p C dx fs v, V.ref a = .ref p ∧ H p = some (.ins C dx fs) ∧ Cls KK C ∧ NoAttr KK C "at" ∧ fs.lookup ("at" : Str) = some v ∧ P v := e ▸ ⟨a, _, dx, _, _, rfl, m, T.cl_LeafReader, T.na_LeafReader_at, rfl, h⟩
theorem sf_LeafReader_at (T : Facts K mg) {v0 v1 v2 v3 v4 v5 v6 v7 v8 v9 v10 y : V} {P : Hp → Prop} (A : Adv M G0 H0 G H) (m : Cl M H0 G H a (.ins (cA K "LeafReader") dx (fs_LeafReader v0 v1 v2 v3 v4 v5 v6 v7 v8 v9 v10))) (k : ∀ H', Adv M G0 H0 G H' → Cl M H0 G H' a (.ins (cA K "LeafReader") dx (fs_LeafReader v0 y v2 v3 v4 v5 v6 v7 v8 v9 v10)) → (∀ o' x, Cl M H0 G H o' x → o' ≠ a → Cl M H0 G H' o' x) → P H') : ∃ p C dx fs, V.ref a = .ref p ∧ H p = some (.ins C dx fs) ∧ Cls K C ∧ NoAttr K C "at" ∧ fs.length < 1000 ∧ WrO P H p (.ins C dx (putF "at" y fs)) := S_sf A m T.cl_LeafReader T.na_LeafReader_at (by simp only [List.length_cons, List.length_nil]; omega) rfl k
theorem gf_LeafReader_scan {KK : PySem.W.Frag} (e : K = KK) (T : Facts K mg) {v0 v1 v2 v3 v4 v5 v6 v7 v8 v9 v10 : V} {P : V → Prop} (m : H a = some (.ins (cA K "LeafReader") dx (fs_LeafReader v0 v1 v2 v3 v4 v5 v6 v7 v8 v9 v10))) (h : P v2) : ∃ p C dx fs v, V.ref a = .ref p ∧ H p = some (.ins C dx fs) ∧ Cls KK C ∧ NoAttr KK C "scan" ∧ fs.lookup ("scan" : Str) = some v ∧ P v := e ▸ ⟨a, _, dx, _, _, rfl, m, T.cl_LeafReader, T.na_LeafReader_scan, rfl, h⟩
theorem sf_LeafReader_scan (T : Facts K mg) {v0 v1 v2 v3 v4 v5 v6 v7 v8 v9 v10 y : V} {P : Hp → Prop} (A : Adv M G0 H0 G H) (m : Cl M H0 G H a (.ins (cA K "LeafReader") dx (fs_LeafReader v0 v1 v2 v3 v4 v5 v6 v7 v8 v9 v10))) (k : ∀ H', Adv M G0 H0 G H' → Cl M H0 G H' a (.ins (cA K "LeafReader") dx (fs_LeafReader v0 v1 y v3 v4 v5 v6 v7 v8 v9 v10)) → (∀ o' x, Cl M H0 G H o' x → o' ≠ a → Cl M H0 G H' o' x) → P H') : ∃ p C dx fs, V.ref a = .ref p ∧ H p = some (.ins C dx fs) ∧ Cls K C ∧ NoAttr K C "scan" ∧ fs.length < 1000 ∧ WrO P H p (.ins C dx (putF "scan" y fs)) := S_sf A m T.cl_LeafReader T.na_LeafReader_scan (by simp only [List.length_cons, List.length_nil]; omega) rfl k
theorem gf_LeafReader_count {KK : PySem.W.Frag} (e : K = KK) (T : Facts K mg) {v0 v1 v2 v3 v4 v5 v6 v7 v8 v9 v10 : V} {P : V → Prop} (m : H a = some (.ins (cA K "LeafReader") dx (fs_LeafReader v0 v1 v2 v3 v4 v5 v6 v7 v8 v9 v10))) (h : P v3) : ∃ p C dx fs v, V.ref a = .ref p ∧ H p = some (.ins C dx fs) ∧ Cls KK C ∧ NoAttr KK C "count" ∧ fs.lookup ("count" : Str) = some v ∧ P v := e ▸ ⟨a, _, dx, _, _, rfl, m, T.cl_LeafReader, T.na_LeafReader_count, rfl, h⟩
theorem sf_LeafReader_count (T : Facts K mg) {v0 v1 v2 v3 v4 v5 v6 v7 v8 v9 v10 y : V} {P : Hp → Prop} (A : Adv M G0 H0 G H) (m : Cl M H0 G H a (.ins (cA K "LeafReader") dx (fs_LeafReader v0 v1 v2 v3 v4 v5 v6 v7 v8 v9 v10))) (k : ∀ H', Adv M G0 H0 G H' → Cl M H0 G H' a (.ins (cA K "LeafReader") dx (fs_LeafReader v0 v1 v2 y v4 v5 v6 v7 v8 v9 v10)) → (∀ o' x, Cl M H0 G H o' x → o' ≠ a → Cl M H0 G H' o' x) → P H') : ∃ p C dx fs, V.ref a = .ref p ∧ H p = some (.ins C dx fs) ∧ Cls K C ∧ NoAttr K C "count" ∧ fs.length < 1000 ∧ WrO P H p (.ins C dx (putF "count" y fs)) := S_sf A m T.cl_LeafReader T.na_LeafReader_count (by simp only [List.length_cons, List.length_nil]; omega) rfl k
theorem gf_LeafReader_stamp {KK : PySem.W.Frag} (e : K = KK) (T : Facts K mg) {v0 v1 v2 v3 v4 v5 v6 v7 v8 v9 v10 : V} {P : V → Prop} (m : H a = some (.ins (cA K "LeafReader") dx (fs_LeafReader v0 v1 v2 v3 v4 v5 v6 v7 v8 v9 v10))) (h : P v4) : ∃ p C dx fs v, V.ref a = .ref p ∧ H p = some (.ins C dx fs) ∧ Cls KK C ∧ NoAttr KK C "stamp" ∧ fs.lookup ("stamp" : Str) = some v ∧ P v := e ▸ ⟨a, _, dx, _, _, rfl, m, T.cl_LeafReader, T.na_LeafReader_stamp, rfl, h⟩
theorem sf_LeafReader_stamp (T : Facts K mg) {v0 v1 v2 v3 v4 v5 v6 v7 v8 v9 v10 y : V} {P : Hp → Prop} (A : Adv M G0 H0 G H) (m : Cl M H0 G H a (.ins (cA K "LeafReader") dx (fs_LeafReader v0 v1 v2 v3 v4 v5 v6 v7 v8 v9 v10))) (k : ∀ H', Adv M G0 H0 G H' → Cl M H0 G H' a (.ins (cA K "LeafReader") dx (fs_LeafReader v0 v1 v2 v3 y v5 v6 v7 v8 v9 v10)) → (∀ o' x, Cl M H0 G H o' x → o' ≠ a → Cl M H0 G H' o' x) → P H') : ∃ p C dx fs, V.ref a = .ref p ∧ H p = some (.ins C dx fs) ∧ Cls K C ∧ NoAttr K C "stamp" ∧ fs.length < 1000 ∧ WrO P H p (.ins C dx (putF "stamp" y fs)) := S_sf A m T.cl_LeafReader T.na_LeafReader_stamp (by simp only [List.length_cons, List.length_nil]; omega) rfl k
theorem gf_LeafReader_last {KK : PySem.W.Frag} (e : K = KK) (T : Facts K mg) {v0 v1 v2 v3 v4 v5 v6 v7 v8 v9 v10 : V} {P : V → Prop} (m : H a = some (.ins (cA K "LeafReader") dx (fs_LeafReader v0 v1 v2 v3 v4 v5 v6 v7 v8 v9 v10))) (h : P v5) : ∃ p C dx fs v, V.ref a = .ref p ∧ H p = some (.ins C dx fs) ∧ Cls KK C ∧ NoAttr KK C "last" ∧ fs.lookup ("last" : Str) = some v ∧ P v := e ▸ ⟨a, _, dx, _, _, rfl, m, T.cl_LeafReader, T.na_LeafReader_last, rfl, h⟩
theorem sf_LeafReader_last (T : Facts K mg) {v0 v1 v2 v3 v4 v5 v6 v7 v8 v9 v10 y : V} {P : Hp → Prop} (A : Adv M G0 H0 G H) (m : Cl M H0 G H a (.ins (cA K "LeafReader") dx (fs_LeafReader v0 v1 v2 v3 v4 v5 v6 v7 v8 v9 v10))) (k : ∀ H', Adv M G0 H0 G H' → Cl M H0 G H' a (.ins (cA K "LeafReader") dx (fs_LeafReader v0 v1 v2 v3 v4 y v6 v7 v8 v9 v10)) → (∀ o' x, Cl M H0 G H o' x → o' ≠ a → Cl M H0 G H' o' x) → P H') : ∃ p C dx fs, V.ref a = .ref p ∧ H p = some (.ins C dx fs) ∧ Cls K C ∧ NoAttr K C "last" ∧ fs.length < 1000 ∧ WrO P H p (.ins C dx (putF "last" y fs)) := S_sf A m T.cl_LeafReader T.na_LeafReader_last (by simp only [List.length_cons, List.length_nil]; omega) rfl k
theorem gf_LeafReader_head {KK : PySem.W.Frag} (e : K = KK) (T : Facts K mg) {v0 v1 v2 v3 v4 v5 v6 v7 v8 v9 v10 : V} {P : V → Prop} (m : H a = some (.ins (cA K "LeafReader") dx (fs_LeafReader v0 v1 v2 v3 v4 v5 v6 v7 v8 v9 v10))) (h : P v6) : ∃ p C dx fs v, V.ref a = .ref p ∧ H p = some (.ins C dx fs) ∧ Cls KK C ∧ NoAttr KK C "head" ∧ fs.lookup ("head" : Str) = some v ∧ P v := e ▸ ⟨a, _, dx, _, _, rfl, m, T.cl_LeafReader, T.na_LeafReader_head, rfl, h⟩
theorem sf_LeafReader_head (T : Facts K mg) {v0 v1 v2 v3 v4 v5 v6 v7 v8 v9 v10 y : V} {P : Hp → Prop} (A : Adv M G0 H0 G H) (m : Cl M H0 G H a (.ins (cA K "LeafReader") dx (fs_LeafReader v0 v1 v2 v3 v4 v5 v6 v7 v8 v9 v10))) (k : ∀ H', Adv M G0 H0 G H' → Cl M H0 G H' a (.ins (cA K "LeafReader") dx (fs_LeafReader v0 v1 v2 v3 v4 v5 y v7 v8 v9 v10)) → (∀ o' x, Cl M H0 G H o' x → o' ≠ a → Cl M H0 G H' o' x) → P H') : ∃ p C dx fs, V.ref a = .ref p ∧ H p = some (.ins C dx fs) ∧ Cls K C ∧ NoAttr K C "head" ∧ fs.length < 1000 ∧ WrO P H p (.ins C dx (putF "head" y fs)) := S_sf A m T.cl_LeafReader T.na_LeafReader_head (by simp only [List.length_cons, List.length_nil]; omega) rfl k
theorem gf_LeafReader_tags {KK : PySem.W.Frag} (e : K = KK) (T : Facts K mg) {v0 v1 v2 v3 v4 v5 v6 v7 v8 v9 v10 : V} {P : V → Prop} (m : H a = some (.ins (cA K "LeafReader") dx (fs_LeafReader v0 v1 v2 v3 v4 v5 v6 v7 v8 v9 v10))) (h : P v7) : ∃ p C dx fs v, V.ref a = .ref p ∧ H p = some (.ins C dx fs) ∧ Cls KK C ∧ NoAttr KK C "tags" ∧ fs.lookup ("tags" : Str) = some v ∧ P v := e ▸ ⟨a, _, dx, _, _, rfl, m, T.cl_LeafReader, T.na_LeafReader_tags, rfl, h⟩
theorem sf_LeafReader_tags (T : Facts K mg) {v0 v1 v2 v3 v4 v5 v6 v7 v8 v9 v10 y : V} {P : Hp → Prop} (A : Adv M G0 H0 G H) (m : Cl M H0 G H a (.ins (cA K "LeafReader") dx (fs_LeafReader v0 v1 v2 v3 v4 v5 v6 v7 v8 v9 v10))) (k : ∀ H', Adv M G0 H0 G H' → Cl M H0 G H' a (.ins (cA K "LeafReader") dx (fs_LeafReader v0 v1 v2 v3 v4 v5 v6 y v8 v9 v10)) → (∀ o' x, Cl M H0 G H o' x → o' ≠ a → Cl M H0 G H' o' x) → P H') : ∃ p C dx fs, V.ref a = .ref p ∧ H p = some (.ins C dx fs) ∧ Cls K C ∧ NoAttr K C "tags" ∧ fs.length < 1000 ∧ WrO P H p (.ins C dx (putF "tags" y fs)) := S_sf A m T.cl_LeafReader T.na_LeafReader_tags (by simp only [List.length_cons, List.length_nil]; omega) rfl k
theorem gf_LeafReader_entries {KK : PySem.W.Frag} (e : K = KK) (T : Facts K mg) {v0 v1 v2 v3 v4 v5 v6 v7 v8 v9 v10 : V} {P : V → Prop} (m : H a = some (.ins (cA K "LeafReader") dx (fs_LeafReader v0 v1 v2 v3 v4 v5 v6 v7 v8 v9 v10))) (h : P v8) : ∃ p C dx fs v, V.ref a = .ref p ∧ H p = some (.ins C dx fs) ∧ Cls KK C ∧ NoAttr KK C "entries" ∧ fs.lookup ("entries" : Str) = some v ∧ P v := e ▸ ⟨a, _, dx, _, _, rfl, m, T.cl_LeafReader, T.na_LeafReader_entries, rfl, h⟩
theorem sf_LeafReader_entries (T : Facts K mg) {v0 v1 v2 v3 v4 v5 v6 v7 v8 v9 v10 y : V} {P : Hp → Prop} (A : Adv M G0 H0 G H) (m : Cl M H0 G H a (.ins (cA K "LeafReader") dx (fs_LeafReader v0 v1 v2 v3 v4 v5 v6 v7 v8 v9 v10))) (k : ∀ H', Adv M G0 H0 G H' → Cl M H0 G H' a (.ins (cA K "LeafReader") dx (fs_LeafReader v0 v1 v2 v3 v4 v5 v6 v7 y v9 v10)) → (∀ o' x, Cl M H0 G H o' x → o' ≠ a → Cl M H0 G H' o' x) → P H') : ∃ p C dx fs, V.ref a = .ref p ∧ H p = some (.ins C dx fs) ∧ Cls K C ∧ NoAttr K C "entries" ∧ fs.length < 1000 ∧ WrO P H p (.ins C dx (putF "entries" y fs)) := S_sf A m T.cl_LeafReader T.na_LeafReader_entries (by simp only [List.length_cons, List.length_nil]; omega) rfl k
theorem gf_LeafReader_units {KK : PySem.W.Frag} (e : K = KK) (T : Facts K mg) {v0 v1 v2 v3 v4 v5 v6 v7 v8 v9 v10 : V} {P : V → Prop} (m : H a = some (.ins (cA K "LeafReader") dx (fs_LeafReader v0 v1 v2 v3 v4 v5 v6 v7 v8 v9 v10))) (h : P v9) : ∃ p C dx fs v, V.ref a = .ref p ∧ H p = some (.ins C dx fs) ∧ Cls KK C ∧ NoAttr KK C "units" ∧ fs.lookup ("units" : Str) = some v ∧ P v := e ▸ ⟨a, _, dx, _, _, rfl, m, T.cl_LeafReader, T.na_LeafReader_units, rfl, h⟩
theorem sf_LeafReader_units (T : Facts K mg) {v0 v1 v2 v3 v4 v5 v6 v7 v8 v9 v10 y : V} {P : Hp → Prop} (A : Adv M G0 H0 G H) (m : Cl M H0 G H a (.ins (cA K "LeafReader") dx (fs_LeafReader v0 v1 v2 v3 v4 v5 v6 v7 v8 v9 v10))) (k : ∀ H', Adv M G0 H0 G H' → Cl M H0 G H' a (.ins (cA K "LeafReader") dx (fs_LeafReader v0 v1 v2 v3 v4 v5 v6 v7 v8 y v10)) → (∀ o' x, Cl M H0 G H o' x → o' ≠ a → Cl M H0 G H' o' x) → P H') : ∃ p C dx fs, V.ref a = .ref p ∧ H p = some (.ins C dx fs) ∧ Cls K C ∧ NoAttr K C "units" ∧ fs.length < 1000 ∧ WrO P H p (.ins C dx (putF "units" y fs)) := S_sf A m T.cl_LeafReader T.na_LeafReader_units (by simp only [List.length_cons, List.length_nil]; omega) rfl k
theorem gf_LeafReader_places {KK : PySem.W.Frag} (e : K = KK) (T : Facts K mg) {v0 v1 v2 v3 v4 v5 v6 v7 v8 v9 v10 : V} {P : V → Prop} (m : H a = some (.ins (cA K "LeafReader") dx (fs_LeafReader v0 v1 v2 v3 v4 v5 v6 v7 v8 v9 v10))) (h : P v10) : ∃ p C dx fs v, V.ref a = .ref p ∧ H p = some (.ins C dx fs) ∧ Cls KK C ∧ NoAttr KK C "places" ∧ fs.lookup ("places" : Str) = some v ∧ P v := e ▸ ⟨a, _, dx, _, _, rfl, m, T.cl_LeafReader, T.na_LeafReader_places, rfl, h⟩
theorem sf_LeafReader_places (T : Facts K mg) {v0 v1 v2 v3 v4 v5 v6 v7 v8 v9 v10 y : V} {P : Hp → Prop} (A : Adv M G0 H0 G H) (m : Cl M H0 G H a (.ins (cA K "LeafReader") dx (fs_LeafReader v0 v1 v2 v3 v4 v5 v6 v7 v8 v9 v10))) (k : ∀ H', Adv M G0 H0 G H' → Cl M H0 G H' a (.ins (cA K "LeafReader") dx (fs_LeafReader v0 v1 v2 v3 v4 v5 v6 v7 v8 v9 y)) → (∀ o' x, Cl M H0 G H o' x → o' ≠ a → Cl M H0 G H' o' x) → P H') : ∃ p C dx fs, V.ref a = .ref p ∧ H p = some (.ins C dx fs) ∧ Cls K C ∧ NoAttr K C "places" ∧ fs.length < 1000 ∧ WrO P H p (.ins C dx (putF "places" y fs)) := S_sf A m T.cl_LeafReader T.na_LeafReader_places (by simp only [List.length_cons, List.length_nil]; omega) rfl k
abbrev fs_LeafWriter (v0 v1 v2 : V) : List (Str × V) := [("stamp", v0), ("leaves", v1), ("data", v2)]
theorem gf_LeafWriter_stamp {KK : PySem.W.Frag} (e : K = KK) (T : Facts K mg) {v0 v1 v2 : V} {P : V → Prop} (m : H a = some (.ins (cA K "LeafWriter") dx (fs_LeafWriter v0 v1 v2))) (h : P v0) : ∃ p C dx fs v, V.ref a = .ref p ∧ H p = some (.ins C dx fs) ∧ Cls KK C ∧ NoAttr KK C "stamp" ∧ fs.lookup ("stamp" : Str) = some v ∧ P v := e ▸ ⟨a, _, dx, _, _, rfl, m, T.cl_LeafWriter, T.na_LeafWriter_stamp, rfl, h⟩
theorem sf_LeafWriter_stamp (T : Facts K mg) {v0 v1 v2 y : V} {P : Hp → Prop} (A : Adv M G0 H0 G H) (m : Cl M H0 G H a (.ins (cA K "LeafWriter") dx (fs_LeafWriter v0 v1 v2))) (k : ∀ H', Adv M G0 H0 G H' → Cl M H0 G H' a (.ins (cA K "LeafWriter") dx (fs_LeafWriter y v1 v2)) → (∀ o' x, Cl M H0 G H o' x → o' ≠ a → Cl M H0 G H' o' x) → P H') : ∃ p C dx fs, V.ref a = .ref p ∧ H p = some (.ins C dx fs) ∧ Cls K C ∧ NoAttr K C "stamp" ∧ fs.length < 1000 ∧ WrO P H p (.ins C dx (putF "stamp" y fs)) := S_sf A m T.cl_LeafWriter T.na_LeafWriter_stamp (by simp only [List.length_cons, List.length_nil]; omega) rfl k
theorem gf_LeafWriter_leaves {KK : PySem.W.Frag} (e : K = KK) (T : Facts K mg) {v0 v1 v2 : V} {P : V → Prop} (m : H a = some (.ins (cA K "LeafWriter") dx (fs_LeafWriter v0 v1 v2))) (h : P v1) : ∃ p C dx fs v, V.ref a = .ref p ∧ H p = some (.ins C dx fs) ∧ Cls KK C ∧ NoAttr KK C "leaves" ∧ fs.lookup ("leaves" : Str) = some v ∧ P v := e ▸ ⟨a, _, dx, _, _, rfl, m, T.cl_LeafWriter, T.na_LeafWriter_leaves, rfl, h⟩
theorem sf_LeafWriter_leaves (T : Facts K mg) {v0 v1 v2 y : V} {P : Hp → Prop} (A : Adv M G0 H0 G H) (m : Cl M H0 G H a (.ins (cA K "LeafWriter") dx (fs_LeafWriter v0 v1 v2))) (k : ∀ H', Adv M G0 H0 G H' → Cl M H0 G H' a (.ins (cA K "LeafWriter") dx (fs_LeafWriter v0 y v2)) → (∀ o' x, Cl M H0 G H o' x → o' ≠ a → Cl M H0 G H' o' x) → P H') : ∃ p C dx fs, V.ref a = .ref p ∧ H p = some (.ins C dx fs) ∧ Cls K C ∧ NoAttr K C "leaves" ∧ fs.length < 1000 ∧ WrO P H p (.ins C dx (putF "leaves" y fs)) := S_sf A m T.cl_LeafWriter T.na_LeafWriter_leaves (by simp only [List.length_cons, List.length_nil]; omega) rfl k
theorem gf_LeafWriter_data {KK : PySem.W.Frag} (e : K = KK) (T : Facts K mg) {v0 v1 v2 : V} {P : V → Prop} (m : H a = some (.ins (cA K "LeafWriter") dx (fs_LeafWriter v0 v1 v2))) (h : P v2) : ∃ p C dx fs v, V.ref a = .ref p ∧ H p = some (.ins C dx fs) ∧ Cls KK C ∧ NoAttr KK C "data" ∧ fs.lookup ("data" : Str) = some v ∧ P v := e ▸ ⟨a, _, dx, _, _, rfl, m, T.cl_LeafWriter, T.na_LeafWriter_data, rfl, h⟩
theorem sf_LeafWriter_data (T : Facts K mg) {v0 v1 v2 y : V} {P : Hp → Prop} (A : Adv M G0 H0 G H) (m : Cl M H0 G H a (.ins (cA K "LeafWriter") dx (fs_LeafWriter v0 v1 v2))) (k : ∀ H', Adv M G0 H0 G H' → Cl M H0 G H' a (.ins (cA K "LeafWriter") dx (fs_LeafWriter v0 v1 y)) → (∀ o' x, Cl M H0 G H o' x → o' ≠ a → Cl M H0 G H' o' x) → P H') : ∃ p C dx fs, V.ref a = .ref p ∧ H p = some (.ins C dx fs) ∧ Cls K C ∧ NoAttr K C "data" ∧ fs.length < 1000 ∧ WrO P H p (.ins C dx (putF "data" y fs)) := S_sf A m T.cl_LeafWriter T.na_LeafWriter_data (by simp only [List.length_cons, List.length_nil]; omega) rfl k
abbrev fs_Reader (v0 v1 v2 v3 : V) : List (Str × V) := [("_leaves", v0), ("_units", v1), ("_given", v2), ("_bad", v3)]
theorem gf_Reader_leaves {KK : PySem.W.Frag} (e : K = KK) (T : Facts K mg) {v0 v1 v2 v3 : V} {P : V → Prop} (m : H a = some (.ins (cA K "Reader") dx (fs_Reader v0 v1 v2 v3))) (h : P v0) : ∃ p C dx fs v, V.ref a = .ref p ∧ H p = some (.ins C dx fs) ∧ Cls KK C ∧ NoAttr KK C "_leaves" ∧ fs.lookup ("_leaves" : Str) = some v ∧ P v := e ▸ ⟨a, _, dx, _, _, rfl, m, T.cl_Reader, T.na_Reader_leaves, rfl, h⟩
theorem sf_Reader_leaves (T : Facts K mg) {v0 v1 v2 v3 y : V} {P : Hp → Prop} (A : Adv M G0 H0 G H) (m : Cl M H0 G H a (.ins (cA K "Reader") dx (fs_Reader v0 v1 v2 v3))) (k : ∀ H', Adv M G0 H0 G H' → Cl M H0 G H' a (.ins (cA K "Reader") dx (fs_Reader y v1 v2 v3)) → (∀ o' x, Cl M H0 G H o' x → o' ≠ a → Cl M H0 G H' o' x) → P H') : ∃ p C dx fs, V.ref a = .ref p ∧ H p = some (.ins C dx fs) ∧ Cls K C ∧ NoAttr K C "_leaves" ∧ fs.length < 1000 ∧ WrO P H p (.ins C dx (putF "_leaves" y fs)) := S_sf A m T.cl_Reader T.na_Reader_leaves (by simp only [List.length_cons, List.length_nil]; omega) rfl k
theorem gf_Reader_units {KK : PySem.W.Frag} (e : K = KK) (T : Facts K mg) {v0 v1 v2 v3 : V} {P : V → Prop} (m : H a = some (.ins (cA K "Reader") dx (fs_Reader v0 v1 v2 v3))) (h : P v1) : ∃ p C dx fs v, V.ref a = .ref p ∧ H p = some (.ins C dx fs) ∧ Cls KK C ∧ NoAttr KK C "_units" ∧ fs.lookup ("_units" : Str) = some v ∧ P v := e ▸ ⟨a, _, dx, _, _, rfl, m, T.cl_Reader, T.na_Reader_units, rfl, h⟩
theorem sf_Reader_units (T : Facts K mg) {v0 v1 v2 v3 y : V} {P : Hp → Prop} (A : Adv M G0 H0 G H) (m : Cl M H0 G H a (.ins (cA K "Reader") dx (fs_Reader v0 v1 v2 v3))) (k : ∀ H', Adv M G0 H0 G H' → Cl M H0 G H' a (.ins (cA K "Reader") dx (fs_Reader v0 y v2 v3)) → (∀ o' x, Cl M H0 G H o' x → o' ≠ a → Cl M H0 G H' o' x) → P H') : ∃ p C dx fs, V.ref a = .ref p ∧ H p = some (.ins C dx fs) ∧ Cls K C ∧ NoAttr K C "_units" ∧ fs.length < 1000 ∧ WrO P H p (.ins C dx (putF "_units" y fs)) := S_sf A m T.cl_Reader T.na_Reader_units (by simp only [List.length_cons, List.length_nil]; omega) rfl k
theorem gf_Reader_given {KK : PySem.W.Frag} (e : K = KK) (T : Facts K mg) {v0 v1 v2 v3 : V} {P : V → Prop} (m : H a = some (.ins (cA K "Reader") dx (fs_Reader v0 v1 v2 v3))) (h : P v2) : ∃ p C dx fs v, V.ref a = .ref p ∧ H p = some (.ins C dx fs) ∧ Cls KK C ∧ NoAttr KK C "_given" ∧ fs.lookup ("_given" : Str) = some v ∧ P v := e ▸ ⟨a, _, dx, _, _, rfl, m, T.cl_Reader, T.na_Reader_given, rfl, h⟩
theorem sf_Reader_given (T : Facts K mg) {v0 v1 v2 v3 y : V} {P : Hp → Prop} (A : Adv M G0 H0 G H) (m : Cl M H0 G H a (.ins (cA K "Reader") dx (fs_Reader v0 v1 v2 v3))) (k : ∀ H', Adv M G0 H0 G H' → Cl M H0 G H' a (.ins (cA K "Reader") dx (fs_Reader v0 v1 y v3)) → (∀ o' x, Cl M H0 G H o' x → o' ≠ a → Cl M H0 G H' o' x) → P H') : ∃ p C dx fs, V.ref a = .ref p ∧ H p = some (.ins C dx fs) ∧ Cls K C ∧ NoAttr K C "_given" ∧ fs.length < 1000 ∧ WrO P H p (.ins C dx (putF "_given" y fs)) := S_sf A m T.cl_Reader T.na_Reader_given (by simp only [List.length_cons, List.length_nil]; omega) rfl k
theorem gf_Reader_bad {KK : PySem.W.Frag} (e : K = KK) (T : Facts K mg) {v0 v1 v2 v3 : V} {P : V → Prop} (m : H a = some (.ins (cA K "Reader") dx (fs_Reader v0 v1 v2 v3))) (h : P v3) : ∃ p C dx fs v, V.ref a = .ref p ∧ H p = some (.ins C dx fs) ∧ Cls KK C ∧ NoAttr KK C "_bad" ∧ fs.lookup ("_bad" : Str) = some v ∧ P v := e ▸ ⟨a, _, dx, _, _, rfl, m, T.cl_Reader, T.na_Reader_bad, rfl, h⟩
theorem sf_Reader_bad (T : Facts K mg) {v0 v1 v2 v3 y : V} {P : Hp → Prop} (A : Adv M G0 H0 G H) (m : Cl M H0 G H a (.ins (cA K "Reader") dx (fs_Reader v0 v1 v2 v3))) (k : ∀ H', Adv M G0 H0 G H' → Cl M H0 G H' a (.ins (cA K "Reader") dx (fs_Reader v0 v1 v2 y)) → (∀ o' x, Cl M H0 G H o' x → o' ≠ a → Cl M H0 G H' o' x) → P H') : ∃ p C dx fs, V.ref a = .ref p ∧ H p = some (.ins C dx fs) ∧ Cls K C ∧ NoAttr K C "_bad" ∧ fs.length < 1000 ∧ WrO P H p (.ins C dx (putF "_bad" y fs)) := S_sf A m T.cl_Reader T.na_Reader_bad (by simp only [List.length_cons, List.length_nil]; omega) rfl k
end
end Sp
namespace Sp
open PySem PySem.Spec PyProof.Rows L2
local macro_rules | `(tactic| walk_at "sp om") => `(tactic| first | omega | (simp only [List.length_map, List.length_append, List.length_cons, List.length_nil, List.length_drop, List.length_take, List.length_range, List.length_reverse]; omega))
local macro_rules | `(tactic| walk_at "sp sq") => `(tactic| first | exact Adv.l (by with_reducible assumption) (by with_reducible assumption) | exact ql (Adv.gh (by with_reducible assumption)) (by with_reducible assumption) | exact Cl.l (by with_reducible assumption) | exact ql (by with_reducible assumption) (by with_reducible assumption))
local macro_rules | `(tactic| walk_at "sp tq") => `(tactic| first | exact Adv.t (by with_reducible assumption) (by with_reducible assumption) | exact qt (Adv.gh (by with_reducible assumption)) (by with_reducible assumption) | exact qt (by with_reducible assumption) (by with_reducible assumption) | exact Facts.t_MOST (by assumption) _)
local macro_rules | `(tactic| walk_at "sp 0") => `(tactic| with_reducible first | refine S_seq ?_ | refine S_asg ?_ | refine S_op ?_ | refine S_var rfl ?_ | refine S_c ?_ | ((refine' S_nameL ?spe ?_); (case spe => first | (simp only [L2.start, List.map_cons, List.map_nil, List.length_cons, List.length_nil, List.cons_append, List.nil_append, List.set_cons_succ, List.set_cons_zero, List.replicate_succ, List.replicate_zero, Nat.reduceAdd, Nat.reduceSub]; exact rfl) | exact rfl)) | refine S_tcons ?_ | refine S_tnil ?_ | refine S_call ?_ | refine S_cb ?_ | refine S_ri0 ?_ | refine S_if ?_ | refine S_test ?_ | refine S_T ?_ | refine S_F ?_ | refine S_NT ?_ | refine S_NF ?_ | refine S_next ?_ | refine S_drop ?_ | refine S_ret ?_ | refine S_retN ?_ | refine S_for ?_ | refine S_gcons ?_ | refine S_gnil ?_ | refine S_eqI ?_ | refine S_neI ?_ | refine S_tand ?_ | refine S_tor ?_ | refine S_tnot ?_ | refine S_chain ?_ | refine S_tB ?_ | refine S_tup ?_ | refine S_lst ?_ | refine S_fld ?_ | refine S_slice ?_ | refine S_part ?_ | refine S_nopart ?_ | refine S_isI ?_ | refine S_bm ?_ | refine S_bm0 ?_ | refine S_aug rfl ?_ | refine S_ipI ?_ | refine S_ilist ?_ | refine S_itup ?_ | refine S_ir1 ?_ | refine S_ir2 ?_ | refine S_istr ?_ | refine S_un ?_ | refine S_ru ?_ | refine S_andV ?_ | refine S_orV ?_ | refine S_notV ?_ | refine S_ifE ?_ | refine S_sfld ?_ | refine S_lc ?_ | refine S_revL ?_ | refine S_ir3 ?_ | refine S_dput ?_ | refine S_dget1 ?_ | refine S_dget2 ?_ | refine S_dnew ?_ | refine S_dsetd ?_ | refine S_nn ?_ | refine S_rnt ?_ | refine S_nnf ?_ | refine S_rdf ?_ | refine S_ndt ?_ | refine S_make ?_ | refine S_meth ?_ | refine S_yes ?_ | refine S_ss ?_ | refine S_int ?_ | refine S_intB ?_ | refine S_kt ?_ | refine S_kf ?_ | refine S_knt ?_ | refine S_knf ?_)
local macro_rules | `(tactic| walk_at "sp 1") => `(tactic| first | walk_at "sp 0" | ((with_reducible refine' S_gtup ?spq ?spl ?_); (case spq => walk_at "sp tq"); (case spl => rfl)) | ((with_reducible refine' S_lenL ?spq ?_); (case spq => walk_at "sp sq")) | ((with_reducible refine' S_lenT ?spq ?_); (case spq => walk_at "sp tq")) | ((with_reducible refine' S_il ?spq ?_); (case spq => walk_at "sp sq")) | ((with_reducible refine' S_it ?spq ?_); (case spq => walk_at "sp tq")) | ((with_reducible refine' S_ty ?spq ?_); (case spq => walk_at "sp sq")) | ((with_reducible refine' S_dt ?spq ?_); (case spq => walk_at "sp om")) | ((with_reducible refine' S_df ?spq ?_); (case spq => walk_at "sp om")) | ((with_reducible refine' S_nt ?spq ?_); (case spq => walk_at "sp om")) | ((with_reducible refine' S_nf ?spq ?_); (case spq => walk_at "sp om")))
local macro_rules | `(tactic| walk_at "sp ix") => `(tactic| first | exact atI_nat (most_at (by with_reducible assumption)) | exact atI_nat (by with_reducible assumption) | exact atI_nat (get_map (by with_reducible assumption)) | rfl)
local macro_rules | `(tactic| walk_at "sp i") => `(tactic| first | ((with_reducible refine' S_ixL ?spq ?spe ?_); (case spq => walk_at "sp sq"); (case spe => walk_at "sp ix")) | ((with_reducible refine' S_ixT ?spq ?spe ?_); (case spq => walk_at "sp tq"); (case spe => walk_at "sp ix")))
local macro_rules | `(tactic| walk_at "sp g") => `(tactic| first | ((with_reducible refine' gf_BodyReader_body ?spe ?spt ?spm ?_); (case spm => with_reducible exact Cl.h (by with_reducible assumption)); (case spt => assumption); (case spe => rfl)) | ((with_reducible refine' gf_BodyReader_at ?spe ?spt ?spm ?_); (case spm => with_reducible exact Cl.h (by with_reducible assumption)); (case spt => assumption); (case spe => rfl)) | ((with_reducible refine' gf_LeafReader_data ?spe ?spt ?spm ?_); (case spm => with_reducible exact Cl.h (by with_reducible assumption)); (case spt => assumption); (case spe => rfl)) | ((with_reducible refine' gf_LeafReader_at ?spe ?spt ?spm ?_); (case spm => with_reducible exact Cl.h (by with_reducible assumption)); (case spt => assumption); (case spe => rfl)) | ((with_reducible refine' gf_LeafReader_scan ?spe ?spt ?spm ?_); (case spm => with_reducible exact Cl.h (by with_reducible assumption)); (case spt => assumption); (case spe => rfl)) | ((with_reducible refine' gf_LeafReader_count ?spe ?spt ?spm ?_); (case spm => with_reducible exact Cl.h (by with_reducible assumption)); (case spt => assumption); (case spe => rfl)) | ((with_reducible refine' gf_LeafReader_stamp ?spe ?spt ?spm ?_); (case spm => with_reducible exact Cl.h (by with_reducible assumption)); (case spt => assumption); (case spe => rfl)) | ((with_reducible refine' gf_LeafReader_last ?spe ?spt ?spm ?_); (case spm => with_reducible exact Cl.h (by with_reducible assumption)); (case spt => assumption); (case spe => rfl)) | ((with_reducible refine' gf_LeafReader_head ?spe ?spt ?spm ?_); (case spm => with_reducible exact Cl.h (by with_reducible assumption)); (case spt => assumption); (case spe => rfl)) | ((with_reducible refine' gf_LeafReader_tags ?spe ?spt ?spm ?_); (case spm => with_reducible exact Cl.h (by with_reducible assumption)); (case spt => assumption); (case spe => rfl)) | ((with_reducible refine' gf_LeafReader_entries ?spe ?spt ?spm ?_); (case spm => with_reducible exact Cl.h (by with_reducible assumption)); (case spt => assumption); (case spe => rfl)) | ((with_reducible refine' gf_LeafReader_units ?spe ?spt ?spm ?_); (case spm => with_reducible exact Cl.h (by with_reducible assumption)); (case spt => assumption); (case spe => rfl)) | ((with_reducible refine' gf_LeafReader_places ?spe ?spt ?spm ?_); (case spm => with_reducible exact Cl.h (by with_reducible assumption)); (case spt => assumption); (case spe => rfl)) | ((with_reducible refine' gf_LeafWriter_stamp ?spe ?spt ?spm ?_); (case spm => with_reducible exact Cl.h (by with_reducible assumption)); (case spt => assumption); (case spe => rfl)) | ((with_reducible refine' gf_LeafWriter_leaves ?spe ?spt ?spm ?_); (case spm => with_reducible exact Cl.h (by with_reducible assumption)); (case spt => assumption); (case spe => rfl)) | ((with_reducible refine' gf_LeafWriter_data ?spe ?spt ?spm ?_); (case spm => with_reducible exact Cl.h (by with_reducible assumption)); (case spt => assumption); (case spe => rfl)) | ((with_reducible refine' gf_Reader_leaves ?spe ?spt ?spm ?_); (case spm => with_reducible exact Cl.h (by with_reducible assumption)); (case spt => assumption); (case spe => rfl)) | ((with_reducible refine' gf_Reader_units ?spe ?spt ?spm ?_); (case spm => with_reducible exact Cl.h (by with_reducible assumption)); (case spt => assumption); (case spe => rfl)) | ((with_reducible refine' gf_Reader_given ?spe ?spt ?spm ?_); (case spm => with_reducible exact Cl.h (by with_reducible assumption)); (case spt => assumption); (case spe => rfl)) | ((with_reducible refine' gf_Reader_bad ?spe ?spt ?spm ?_); (case spm => with_reducible exact Cl.h (by with_reducible assumption)); (case spt => assumption); (case spe => rfl)))
local macro_rules | `(tactic| walk_at "sp f") => `(tactic| first | walk_at "sp g" | ((with_reducible refine' S_me ?spc ?spe ?_); (case spc => first | with_reducible exact Cl.h (by assumption) | exact Cl.h (by assumption)); (case spe => rfl)))
local macro_rules | `(tactic| walk_at "sp") => `(tactic| repeat first | walk_at "sp 1" | walk_at "sp i" | walk_at "sp f")
/-! w6 -/
section
variable {P : Program} {w : World} {K : PySem.W.Frag} {mg : Str → Option Value} {base : Heap}
/-! ### leaves -/
structure Lf where
  kind : Nat
  stamp : Nat
  num : Nat
  track : Nat
  ord : Nat
  time : Nat
  span : Nat
  key : Nat
  body : List Int
abbrev LfD (l : Lf) : PyData := .tuple [.int l.kind, .int l.stamp, .int l.num, .int l.track, .int l.ord, .int l.time, .int l.span, .int l.key, IntsD l.body]
structure LfOk (l : Lf) : Prop where
  kind : l.kind ≤ 4
  stamp : l.stamp ≤ 4294967295
  num : l.num ≤ 4294967295
  track : l.track ≤ 15
  ord : l.ord ≤ 16777215
  time : l.time ≤ 1099511627775
  span : l.span ≤ 16777215
  key : l.key ≤ 1
  len : l.body.length ≤ 1024
  by_ : Bys l.body
def wBase (l : Lf) : List Int := (l.kind : Int) :: fourB l.stamp ++ fourB l.num ++ putS l.track ++ putS l.ord ++ putS l.time ++ putS l.span ++ [(l.key : Int)] ++ putS l.body.length ++ l.body
def wLeaf (l : Lf) : List Int := wBase l ++ fourB (crc (wBase l))
def sp_small_byte : Sp := fun vs H Q _ => ∃ (G : Hp) (r : V) (bs : List Int) (i f : Nat) (x : Nat) (m : Nat), Same G H ∧ vs = [r, .int i, .int f] ∧ Rp G r (IntsD bs) ∧ bs[i]? = some (x : Int) ∧ mostV[f]? = some (.int m) ∧ x ≤ m ∧ Q (.int x) H
theorem sc_small_byte : FnScope n_small_byte p_small_byte (defScope s_small_byte) := ⟨rfl, rfl, rfl, by decide +kernel, rfl, by decide +kernel, by decide +kernel⟩
theorem ok_small_byte (T : Facts K mg) : FnOk P w K mg base CX0 1 (fA K "small_byte") (fD K "small_byte") p_small_byte sp_small_byte := by
  refine T.small_byte.F.ok sc_small_byte (fun vs H Q E h => ?_) (fun cdv A outer s H vs Q E hr h => ?_)
  · obtain ⟨G, r, bs, i, f, x, m, _, rfl, _⟩ := h
    rfl
  · obtain ⟨G, r, bs, i, f, x, m, sG, rfl, hr0, hx, hm, hxm, q⟩ := h
    obtain ⟨a, rfl, ha⟩ := hr0.ints
    have hi : i < bs.length := (List.getElem?_eq_some_iff.mp hx).1
    refine ⟨_, PSs.nox (pss_cons (ps_if (PW.pt (pw_or (pt_cmpR op_ge (pv 1) (pe_callB call_len_seq rfl T.z_len bi_len (pa_cons (pv 0) pa_nil)) (nomark _)) (pw_or1 (pt_cmpR op_gt (pe_ix ix_list (pv 0) (pv 1) (fun _ _ => rfl)) (pe_ix ix_tup (pe_glob (v := .ref (cA K "MOST")) rfl T.g_MOST rfl) (pv 2) (fun _ _ => rfl)) (nomark _)))))
    pss_never
    pss_nil)
  (pss_one (ps_ret (pe_ix ix_list (pv 0) (pv 1) (fun _ _ => rfl))))), ?_⟩
    walk_at "sp"
    exact q
def sp_word_at : Sp := fun vs H Q _ => ∃ (G : Hp) (r : V) (pre post : List Int) (n f : Nat), Same G H ∧ vs = [r, .int pre.length, .int f] ∧ Rp G r (IntsD (pre ++ fourB n ++ post)) ∧ n < 2 ^ 32 ∧ Post G H Q fun v _ => v = .int n
theorem sc_word_at : FnScope n_word_at p_word_at (defScope s_word_at) := ⟨rfl, rfl, rfl, by decide +kernel, rfl, by decide +kernel, by decide +kernel⟩
theorem ok_word_at (T : Facts K mg) : FnOk P w K mg base CX0 2 (fA K "word_at") (fD K "word_at") p_word_at sp_word_at := by
  refine T.word_at.F.ok sc_word_at (fun vs H Q E h => ?_) (fun cdv A outer s H vs Q E hr h => ?_)
  · obtain ⟨G, r, pre, post, n, f, _, rfl, _⟩ := h
    rfl
  · obtain ⟨G, r, pre, post, n, f, sG, rfl, hr0, hn, q⟩ := h
    obtain ⟨a, rfl, ha⟩ := hr0.ints
    have hl : (pre ++ fourB n ++ post).length = pre.length + 4 + post.length := by simp [fourB]; omega
    generalize hbs : pre ++ fourB n ++ post = bs at ha hl
    refine ⟨_, PSs.nox (pss_cons (ps_if (pt_cmpR op_gt (pe_op op_add (pv 1) pe_int) (pe_callB call_len_seq rfl T.z_len bi_len (pa_cons (pv 0) pa_nil)) (nomark _))
    pss_never
    pss_nil)
  (pss_one (ps_ret (pe_call (ok_number_of T) (hr.mono (by decide)) (by rfl) T.number_of.g T.number_of.kp T.number_of.b .nil pass0 (pa_cons (pe_slice sl_list (pv 0) (po_some (pv 1)) (po_some (pe_op op_add (pv 1) pe_int))) pa_nil))))), ?_⟩
    have A : Adv0 G H G H := .refl sG
    walk_at "sp"
    refine S_slL (ql sG ha) (S_newF A fun p G1 H1 A1 gg hp _ => ?_)
    walk_at "sp"
    refine ⟨G1, .ref p, n, A1.gh, rfl, rp_ints (ns := fourB n) ?_, hn, q _ _ _ A1 rfl⟩
    rw [hp, show ((pre.length : Int) + 4) = ((pre.length + 4 : Nat) : Int) by omega, cut_nat (by omega) (by rw [List.length_map]; omega), ← hbs]
    simp [fourB]
def sp_steps_at : Sp := fun vs H Q _ => ∃ (G : Hp) (r : V) (pre post : List Int) (n m f : Nat), Same G H ∧ vs = [r, .int pre.length, .int m, .int f] ∧ Rp G r (IntsD (pre ++ putS n ++ post)) ∧ n < 2 ^ 40 ∧ n ≤ m ∧ pre.length ≤ 100000 ∧ Post G H Q fun v G' => Rp G' v (.tuple [.int n, .int ((pre.length + (putS n).length : Nat) : Int)])
theorem sc_steps_at : FnScope n_steps_at p_steps_at (defScope s_steps_at) := ⟨rfl, rfl, rfl, by decide +kernel, rfl, by decide +kernel, by decide +kernel⟩
theorem ok_steps_at (T : Facts K mg) : FnOk P w K mg base CX0 2 (fA K "steps_at") (fD K "steps_at") p_steps_at sp_steps_at := by
  refine T.steps_at.F.ok sc_steps_at (fun vs H Q E h => ?_) (fun cdv A outer s H vs Q E hr h => ?_)
  · obtain ⟨G, r, pre, post, n, m, f, _, rfl, _⟩ := h
    rfl
  · obtain ⟨G, r, pre, post, n, m, f, sG, rfl, hr0, hn, hm, hp, q⟩ := h
    refine ⟨_, PSs.nox (pss_cons (ps_try_thru0 (pss_one (ps_asg (pe_call (ok_get_steps T) (hr.mono (by decide)) (by rfl) T.get_steps.g T.get_steps.kp T.get_steps.b .nil pass0 (pa_cons (pv 0) (pa_cons (pv 1) pa_nil))) (pg_tup rfl (pgs_cons (pg_name (i := 4) sc_steps_at.nd rfl (.inl rfl)) (pgs_cons (pg_name (i := 5) sc_steps_at.nd rfl (.inl rfl)) pgs_nil))))))
  (pss_cons (ps_if (pt_cmpR op_gt (pv 4) (pv 2) (nomark _))
    pss_never
    pss_nil)
  (pss_one (ps_ret (pe_tup (pa_cons (pv 4) (pa_cons (pv 5) pa_nil))))))), ?_⟩
    have A : Adv0 G H G H := .refl sG
    walk_at "sp"
    refine ⟨G, r, pre, post, n, sG, rfl, hr0, hn, hp, fun v G1 H1 A1 rv => ?_⟩
    obtain ⟨a, vs, rfl, ha, rl⟩ := rv.tuple
    rcases rl with _ | ⟨⟨⟩, _ | ⟨⟨⟩, _ | _⟩⟩
    have A := A.call A1
    walk_at "sp"
    refine ⟨line_le (by walk_at "sp om"), S_newF A fun p G2 H2 A2 gg hp _ => ?_⟩
    exact q _ _ _ A2 (.tup hp (.cons (.int _) (.cons (.int _) .nil)))
theorem Rp.lf {G : Hp} {r : V} {l : Lf} (h : Rp G r (LfD l)) : ∃ a b, r = .ref a ∧ G a = some (.tup [.int l.kind, .int l.stamp, .int l.num, .int l.track, .int l.ord, .int l.time, .int l.span, .int l.key, .ref b]) ∧ G b = some (.lst (l.body.map V.int)) := by
  obtain ⟨a, vs, rfl, ha, rl⟩ := h.tuple
  rcases rl with _ | ⟨⟨⟩, _ | ⟨⟨⟩, _ | ⟨⟨⟩, _ | ⟨⟨⟩, _ | ⟨⟨⟩, _ | ⟨⟨⟩, _ | ⟨⟨⟩, _ | ⟨⟨⟩, _ | ⟨rb, _ | _⟩⟩⟩⟩⟩⟩⟩⟩⟩
  obtain ⟨b, rfl, hb⟩ := rb.ints
  exact ⟨a, b, rfl, ha, hb⟩
theorem rp_lf {G : Hp} {a b : Addr} {l : Lf} (h : G a = some (.tup [.int l.kind, .int l.stamp, .int l.num, .int l.track, .int l.ord, .int l.time, .int l.span, .int l.key, .ref b])) (hb : G b = some (.lst (l.body.map V.int))) : Rp G (.ref a) (LfD l) :=
  .tup h (.cons (.int _) (.cons (.int _) (.cons (.int _) (.cons (.int _) (.cons (.int _) (.cons (.int _) (.cons (.int _) (.cons (.int _) (.cons (rp_ints hb) .nil)))))))))
theorem putS_le {n : Nat} (h : n < 2 ^ 40) : (putS n).length ≤ 6 := putS_len 5 n (Nat.lt_of_lt_of_le h (by decide))
theorem fourB_bys (n : Nat) : Bys (fourB n) := by
  intro x hx
  simp only [fourB, List.mem_cons, List.not_mem_nil, or_false] at hx
  rcases hx with rfl | rfl | rfl | rfl <;> omega
theorem putS_bys : ∀ n : Nat, Bys (putS n) := by
  intro n
  induction n using Nat.strongRecOn with
  | ind n ih =>
    by_cases h : n < 128
    · rw [putS_small h]
      intro x hx
      rw [List.mem_singleton.mp hx]
      omega
    · rw [putS_big h]
      intro x hx
      rcases List.mem_cons.mp hx with rfl | hx
      · omega
      · exact ih (n / 128) (by omega) x hx
theorem Bys.app {a b : List Int} (ha : Bys a) (hb : Bys b) : Bys (a ++ b) := fun x hx => (List.mem_append.mp hx).elim (ha x) (hb x)
theorem wBase_bys {l : Lf} (ok : LfOk l) : Bys (wBase l) := by
  have h1 := ok.kind
  have h2 := ok.key
  have b1 : Bys [(l.kind : Int)] := fun x hx => by rw [List.mem_singleton.mp hx]; omega
  have b2 : Bys [(l.key : Int)] := fun x hx => by rw [List.mem_singleton.mp hx]; omega
  exact (((((((((b1.app (fourB_bys _)).app (fourB_bys _)).app (putS_bys _)).app (putS_bys _)).app (putS_bys _)).app (putS_bys _)).app b2).app (putS_bys _)).app ok.by_)
def sp_write_leaf : Sp := fun vs H Q _ => ∃ (G : Hp) (r : V) (l : Lf), Same G H ∧ vs = [r] ∧ Rp G r (LfD l) ∧ LfOk l ∧ Post G H Q fun v G' => Rp G' v (IntsD (wLeaf l))
theorem sc_write_leaf : FnScope n_write_leaf p_write_leaf (defScope s_write_leaf) := ⟨rfl, rfl, rfl, by decide +kernel, rfl, by decide +kernel, by decide +kernel⟩
theorem ok_write_leaf (T : Facts K mg) : FnOk P w K mg base CX0 2 (fA K "write_leaf") (fD K "write_leaf") p_write_leaf sp_write_leaf := by
  refine T.write_leaf.F.ok sc_write_leaf (fun vs H Q E h => ?_) (fun cdv A outer s H vs Q E hr h => ?_)
  · obtain ⟨G, r, l, _, rfl, _⟩ := h
    rfl
  · obtain ⟨G, r, l, sG, rfl, hr0, ok, q⟩ := h
    obtain ⟨a, bb, rfl, ha, hb⟩ := hr0.lf
    refine ⟨_, PSs.nox (pss_cons (ps_for PassesOwn.never rfl (pi_range1 rfl T.z_range (pa_cons (pe_callB call_len_seq rfl T.z_len bi_len (pa_cons (pe_glob (v := .ref (cA K "MOST")) rfl T.g_MOST rfl) pa_nil)) pa_nil)) (pg_name (i := 1) sc_write_leaf.nd rfl (.inl rfl))
    (pss_one (ps_if (pt_not (pt_chain op_le op_le pe_int (pe_ix ix_tup (pv 0) (pv 1) (fun _ _ => rfl)) (pe_ix ix_tup (pe_glob (v := .ref (cA K "MOST")) rfl T.g_MOST rfl) (pv 1) (fun _ _ => rfl))))
    pss_never
    pss_nil)))
  (pss_cons (ps_asg (pv 0) (pg_tup rfl (pgs_cons (pg_name (i := 2) sc_write_leaf.nd rfl (.inl rfl)) (pgs_cons (pg_name (i := 3) sc_write_leaf.nd rfl (.inl rfl)) (pgs_cons (pg_name (i := 4) sc_write_leaf.nd rfl (.inl rfl)) (pgs_cons (pg_name (i := 5) sc_write_leaf.nd rfl (.inl rfl)) (pgs_cons (pg_name (i := 6) sc_write_leaf.nd rfl (.inl rfl)) (pgs_cons (pg_name (i := 7) sc_write_leaf.nd rfl (.inl rfl)) (pgs_cons (pg_name (i := 8) sc_write_leaf.nd rfl (.inl rfl)) (pgs_cons (pg_name (i := 9) sc_write_leaf.nd rfl (.inl rfl)) (pgs_cons (pg_name (i := 10) sc_write_leaf.nd rfl (.inl rfl)) pgs_nil)))))))))))
  (pss_cons (ps_if (pt_cmpR op_gt (pe_callB call_len_seq rfl T.z_len bi_len (pa_cons (pv 10) pa_nil)) (pe_gi rfl T.g_MOST_BODY_leaves) (nomark _))
    pss_never
    pss_nil)
  (pss_cons (ps_set (i := 11) sc_write_leaf.nd rfl (.inl rfl) (pe_op op_cat (pe_op op_cat (pe_lst (pa_cons (pv 2) pa_nil)) (pe_call (ok_four_bytes T) (hr.mono (by decide)) (by rfl) T.four_bytes.g T.four_bytes.kp T.four_bytes.b .nil pass0 (pa_cons (pv 3) pa_nil))) (pe_call (ok_four_bytes T) (hr.mono (by decide)) (by rfl) T.four_bytes.g T.four_bytes.kp T.four_bytes.b .nil pass0 (pa_cons (pv 4) pa_nil))))
  (pss_cons (ps_for PassesOwn.never rfl (pi_tup (pe_tup (pa_cons (pv 5) (pa_cons (pv 6) (pa_cons (pv 7) (pa_cons (pv 8) pa_nil)))))) (pg_name (i := 12) sc_write_leaf.nd rfl (.inl rfl))
    (pss_one (ps_expr (pe_bm PySem.F.plainAttrs_list PySem.F.slot_list_extend PySem.F.type_list_extend mt_extend (pv 11) (pa_cons (pe_call (ok_put_steps T) (hr.mono (by decide)) (by rfl) T.put_steps.g T.put_steps.kp T.put_steps.b .nil pass0 (pa_cons (pv 12) pa_nil)) pa_nil)))))
  (pss_cons (ps_expr (pe_bm PySem.F.plainAttrs_list PySem.F.slot_list_append PySem.F.type_list_append mt_append (pv 11) (pa_cons (pv 9) pa_nil)))
  (pss_cons (ps_expr (pe_bm PySem.F.plainAttrs_list PySem.F.slot_list_extend PySem.F.type_list_extend mt_extend (pv 11) (pa_cons (pe_call (ok_put_steps T) (hr.mono (by decide)) (by rfl) T.put_steps.g T.put_steps.kp T.put_steps.b .nil pass0 (pa_cons (pe_callB call_len_seq rfl T.z_len bi_len (pa_cons (pv 10) pa_nil)) pa_nil)) pa_nil)))
  (pss_cons (ps_expr (pe_bm PySem.F.plainAttrs_list PySem.F.slot_list_extend PySem.F.type_list_extend mt_extend (pv 11) (pa_cons (pv 10) pa_nil)))
  (pss_one (ps_ret (pe_op op_cat (pv 11) (pe_call (ok_four_bytes T) (hr.mono (by decide)) (by rfl) T.four_bytes.g T.four_bytes.kp T.four_bytes.b .nil pass0 (pa_cons (pe_call (ok_checksum T) (hr.mono (by decide)) (by rfl) T.checksum.g T.checksum.kp T.checksum.b .nil pass0 (pa_cons (pv 11) pa_nil)) pa_nil))))))))))))), ?_⟩
    have A : Adv0 G H G H := .refl sG
    have o1 := ok.kind
    have o2 := ok.stamp
    have o3 := ok.num
    have o4 := ok.track
    have o5 := ok.ord
    have o6 := ok.time
    have o7 := ok.span
    have o8 := ok.key
    have o9 := ok.len
    walk_at "sp"
    refine S_rn1 (k := 8) rfl (by decide) (S_forR (fun i σ H1 => ∃ x, σ = (L2.start n_write_leaf [.ref a]).set 1 x ∧ H = H1) ⟨none, rfl, rfl⟩ ?_ ?_)
    · rintro i σ H1 hi ⟨x, rfl, rfl⟩
      have hx : ∃ x y : Nat, [V.int l.kind, .int l.stamp, .int l.num, .int l.track, .int l.ord, .int l.time, .int l.span, .int l.key, .ref bb][i]? = some (.int x) ∧ mostV[i]? = some (.int y) ∧ x ≤ y := by
        match i, hi with
        | 0, _ => exact ⟨_, _, rfl, rfl, by omega⟩
        | 1, _ => exact ⟨_, _, rfl, rfl, by omega⟩
        | 2, _ => exact ⟨_, _, rfl, rfl, by omega⟩
        | 3, _ => exact ⟨_, _, rfl, rfl, by omega⟩
        | 4, _ => exact ⟨_, _, rfl, rfl, by omega⟩
        | 5, _ => exact ⟨_, _, rfl, rfl, by omega⟩
        | 6, _ => exact ⟨_, _, rfl, rfl, by omega⟩
        | 7, _ => exact ⟨_, _, rfl, rfl, by omega⟩
      obtain ⟨x, y, h1, h2, h3⟩ := hx
      walk_at "sp"
      refine S_ixT (qt sG ha) (atI_n (Int.zero_add _) h1) ?_
      walk_at "sp"
      refine S_ixT (T.t_MOST _) (atI_n (Int.zero_add _) (most_at h2)) ?_
      walk_at "sp"
      exact ⟨some (.int (0 + (i : Nat))), rfl, rfl⟩
    rintro σ H1 ⟨y1, rfl, rfl⟩
    walk_at "sp"
    refine ⟨line_le (by walk_at "sp om"), S_newF A fun p G1 H1 A1 gg1 hp1 _ => ?_⟩
    walk_at "sp"
    refine ⟨G1, l.stamp, A1.gh, rfl, fun v G2 H2 A2 rv => ?_⟩
    obtain ⟨p2, rfl, hp2⟩ := rv.ints
    have A2' := A1.call A2
    walk_at "sp"
    refine S_cat (A2'.at (A2.gg _ _ hp1)) (A2'.at hp2) (by simp [fourB]) (S_newF A2' fun p3 G3 H3 A3 gg3 hp3 _ => ?_)
    walk_at "sp"
    refine ⟨G3, l.num, A3.gh, rfl, fun v G4 H4 A4 rv => ?_⟩
    obtain ⟨p4, rfl, hp4⟩ := rv.ints
    have A4' := A3.call A4
    walk_at "sp"
    refine S_cat (A4'.at (A4.gg _ _ hp3)) (A4'.at hp4) (by simp [fourB]) (S_newM A4' fun o H5 A5 co fo _ => ?_)
    walk_at "sp"
    refine ⟨line_le (by walk_at "sp om"), S_newF A5 fun pt G6 H6 A6 gg6 hp6 mm => ?_⟩
    have co := mm _ _ co
    clear mm
    walk_at "sp"
    have hfs : [V.int l.track, .int l.ord, .int l.time, .int l.span] = [l.track, l.ord, l.time, l.span].map (fun n : Nat => V.int n) := rfl
    rw [hfs] at hp6
    generalize hf : [l.track, l.ord, l.time, l.span] = fs at hp6
    have hfb : ∀ n ∈ fs, n < 2 ^ 40 := by
      rw [← hf]
      intro n hn
      simp only [List.mem_cons, List.not_mem_nil, or_false] at hn
      rcases hn with rfl | rfl | rfl | rfl <;> omega
    have hfl : fs.length = 4 := by rw [← hf]; rfl
    generalize hb0 : [V.int l.kind] ++ (fourB l.stamp).map V.int ++ (fourB l.num).map V.int = b0 at co
    have hb0l : b0.length = 9 := by rw [← hb0]; rfl
    refine S_forT (xs := fs.map (fun n : Nat => V.int n)) (fun i σ H7 => ∃ x G7 acc, σ = [some (.ref a), y1, some (.int l.kind), some (.int l.stamp), some (.int l.num), some (.int l.track), some (.int l.ord), some (.int l.time), some (.int l.span), some (.int l.key), some (.ref bb), some (.ref o), x] ∧
      Adv0 G H G7 H7 ∧ Same G6 G7 ∧ Cl No H G7 H7 o (.lst (b0 ++ acc.map V.int)) ∧ acc = (fs.take i).flatMap putS ∧ acc.length ≤ 6 * i) ⟨_, G6, [], rfl, A6, .refl _, co.as (by simp), rfl, by simp⟩ (fun i σ H7 _ ⟨_, G7, _, _, A7, g67, _⟩ => qt A7.gh (g67 _ _ hp6)) ?_ ?_
    · rintro i x σ H7 hx ⟨_, G7, acc, rfl, A7, g67, co, hacc, lacc⟩
      obtain ⟨n, hn, rfl⟩ := get_map_inv hx
      have hi : i < 4 := by
        have := (List.getElem?_eq_some_iff.mp hn).1
        omega
      have hnb := hfb n (List.mem_of_getElem? hn)
      walk_at "sp"
      refine ⟨G7, n, A7.gh, rfl, hnb, fun v G8 H8 A8 rv => ?_⟩
      obtain ⟨pp, rfl, hpp⟩ := rv.ints
      have A8' := A7.call A8
      have co := co.call A8
      have lp := putS_le hnb
      walk_at "sp"
      refine S_ext A8' co (A8'.at hpp) (by walk_at "sp om") fun H9 A9 co9 _ => ?_
      refine ⟨_, G8, acc ++ putS n, rfl, A9, g67.trans A8.gg, co9.as (by simp), ?_, by walk_at "sp om"⟩
      rw [take_snoc hn, List.flatMap_append, hacc]
      simp
    · rintro σ H7 ⟨_, G7, acc, rfl, A7, g67, co, hacc, lacc⟩
      have htk : fs.take (fs.map (fun n : Nat => V.int n)).length = fs := List.take_of_length_le (by rw [List.length_map]; exact Nat.le_refl _)
      rw [htk] at hacc
      have lacc : acc.length ≤ 24 := by
        rw [List.length_map, hfl] at lacc
        omega
      walk_at "sp"
      refine S_app' A7 co (by walk_at "sp om") fun H8 A8 co8 _ => ?_
      walk_at "sp"
      refine ⟨G7, l.body.length, A8.gh, by rw [List.length_map]; rfl, by omega, fun v G9 H9 A9 rv => ?_⟩
      obtain ⟨pp, rfl, hpp⟩ := rv.ints
      have A9' := A8.call A9
      have co9 := co8.call A9
      have lp := putS_le (n := l.body.length) (by omega)
      walk_at "sp"
      refine S_ext A9' co9 (A9'.at hpp) (by walk_at "sp om") fun H10 A10 co10 _ => ?_
      walk_at "sp"
      refine S_ext A10 co10 (A10.at (A10.gg _ _ hb)) (by walk_at "sp om") fun H11 A11 co11 _ => ?_
      have hw : b0 ++ acc.map V.int ++ [V.int l.key] ++ (putS l.body.length).map V.int ++ l.body.map V.int = (wBase l).map V.int := by
        rw [← hb0, hacc, ← hf]
        simp [wBase]
      have co := co11.as (congrArg HO.lst hw)
      have A12 := A11.still fo co.h co.g
      walk_at "sp"
      have hby : Bys (wBase l) := wBase_bys ok
      refine ⟨_, .ref o, wBase l, A12.gh, rfl, rp_ints upd_same, hby, ?_⟩
      refine ⟨_, crc (wBase l), A12.gh, rfl, fun v G13 H13 A13 rv => ?_⟩
      obtain ⟨pp, rfl, hpp⟩ := rv.ints
      have A13' := A12.call A13
      have lw : (wBase l).length ≤ 1100 := by
        rw [← List.length_map (f := V.int), ← hw]
        walk_at "sp om"
      refine S_cat (A13'.at (A13.gg _ _ upd_same)) (A13'.at hpp) (by simp [fourB]; omega) (S_newF A13' fun p14 G14 H14 A14 _ hp14 _ => ?_)
      refine q _ _ _ A14 (rp_ints ?_)
      rw [hp14, ← List.map_append]
      rfl
end
/-! w7 -/
section
variable {P : Program} {w : World} {K : PySem.W.Frag} {mg : Str → Option Value} {base : Heap}
theorem flat_split {fs : List Nat} {i n : Nat} (h : fs[i]? = some n) : fs.flatMap putS = (fs.take i).flatMap putS ++ putS n ++ (fs.drop (i + 1)).flatMap putS := by
  conv => lhs; rw [← List.take_append_drop i fs, drop_cons h]
  simp
def sp_read_leaf : Sp := fun vs H Q _ => ∃ (G : Hp) (r : V) (l : Lf), Same G H ∧ vs = [r] ∧ Rp G r (IntsD (wLeaf l)) ∧ LfOk l ∧ Post G H Q fun v G' => Rp G' v (LfD l)
theorem sc_read_leaf : FnScope n_read_leaf p_read_leaf (defScope s_read_leaf) := ⟨rfl, rfl, rfl, by decide +kernel, rfl, by decide +kernel, by decide +kernel⟩
theorem ok_read_leaf (T : Facts K mg) : FnOk P w K mg base CX0 3 (fA K "read_leaf") (fD K "read_leaf") p_read_leaf sp_read_leaf := by
  refine T.read_leaf.F.ok sc_read_leaf (fun vs H Q E h => ?_) (fun cdv A outer s H vs Q E hr h => ?_)
  · obtain ⟨G, r, l, _, rfl, _⟩ := h
    rfl
  · obtain ⟨G, r, l, sG, rfl, hr0, ok, q⟩ := h
    obtain ⟨a, rfl, ha⟩ := hr0.ints
    refine ⟨_, PSs.nox (pss_cons (ps_set (i := 1) sc_read_leaf.nd rfl (.inl rfl) (pe_lst (pa_cons (pe_call (ok_small_byte T) (hr.mono (by decide)) (by rfl) T.small_byte.g T.small_byte.kp T.small_byte.b .nil pass0 (pa_cons (pv 0) (pa_cons pe_int (pa_cons pe_int pa_nil)))) (pa_cons (pe_call (ok_word_at T) (hr.mono (by decide)) (by rfl) T.word_at.g T.word_at.kp T.word_at.b .nil pass0 (pa_cons (pv 0) (pa_cons pe_int (pa_cons pe_int pa_nil)))) (pa_cons (pe_call (ok_word_at T) (hr.mono (by decide)) (by rfl) T.word_at.g T.word_at.kp T.word_at.b .nil pass0 (pa_cons (pv 0) (pa_cons pe_int (pa_cons pe_int pa_nil)))) pa_nil)))))
  (pss_cons (ps_set (i := 2) sc_read_leaf.nd rfl (.inl rfl) pe_int)
  (pss_cons (ps_for PassesOwn.never rfl (pi_range2 rfl T.z_range (pa_cons pe_int (pa_cons pe_int pa_nil))) (pg_name (i := 3) sc_read_leaf.nd rfl (.inl rfl))
    (pss_cons (ps_asg (pe_call (ok_steps_at T) (hr.mono (by decide)) (by rfl) T.steps_at.g T.steps_at.kp T.steps_at.b .nil pass0 (pa_cons (pv 0) (pa_cons (pv 2) (pa_cons (pe_ix ix_tup (pe_glob (v := .ref (cA K "MOST")) rfl T.g_MOST rfl) (pv 3) (fun _ _ => rfl)) (pa_cons (pv 3) pa_nil))))) (pg_tup rfl (pgs_cons (pg_name (i := 4) sc_read_leaf.nd rfl (.inl rfl)) (pgs_cons (pg_name (i := 2) sc_read_leaf.nd rfl (.inl rfl)) pgs_nil))))
  (pss_one (ps_expr (pe_bm PySem.F.plainAttrs_list PySem.F.slot_list_append PySem.F.type_list_append mt_append (pv 1) (pa_cons (pv 4) pa_nil))))))
  (pss_cons (ps_expr (pe_bm PySem.F.plainAttrs_list PySem.F.slot_list_append PySem.F.type_list_append mt_append (pv 1) (pa_cons (pe_call (ok_small_byte T) (hr.mono (by decide)) (by rfl) T.small_byte.g T.small_byte.kp T.small_byte.b .nil pass0 (pa_cons (pv 0) (pa_cons (pv 2) (pa_cons pe_int pa_nil)))) pa_nil)))
  (pss_cons (ps_asg (pe_call (ok_steps_at T) (hr.mono (by decide)) (by rfl) T.steps_at.g T.steps_at.kp T.steps_at.b .nil pass0 (pa_cons (pv 0) (pa_cons (pe_op op_add (pv 2) pe_int) (pa_cons (pe_gi rfl T.g_MOST_BODY_leaves) (pa_cons pe_int pa_nil))))) (pg_tup rfl (pgs_cons (pg_name (i := 5) sc_read_leaf.nd rfl (.inl rfl)) (pgs_cons (pg_name (i := 6) sc_read_leaf.nd rfl (.inl rfl)) pgs_nil))))
  (pss_cons (ps_set (i := 7) sc_read_leaf.nd rfl (.inl rfl) (pe_op op_add (pv 6) (pv 5)))
  (pss_cons (ps_if (pt_cmpR op_gt (pv 7) (pe_callB call_len_seq rfl T.z_len bi_len (pa_cons (pv 0) pa_nil)) (nomark _))
    pss_never
    pss_nil)
  (pss_cons (ps_if (PW.pt (pw_or (pt_cmpR op_ne (pe_callB call_len_seq rfl T.z_len bi_len (pa_cons (pv 0) pa_nil)) (pe_op op_add (pv 7) pe_int) (nomark _)) (pw_or1 (pt_cmpR op_ne (pe_call (ok_number_of T) (hr.mono (by decide)) (by rfl) T.number_of.g T.number_of.kp T.number_of.b .nil pass0 (pa_cons (pe_slice sl_list (pv 0) (po_some (pv 7)) po_none) pa_nil)) (pe_call (ok_checksum T) (hr.mono (by decide)) (by rfl) T.checksum.g T.checksum.kp T.checksum.b .nil pass0 (pa_cons (pe_slice sl_list (pv 0) po_none (po_some (pv 7))) pa_nil)) (nomark _)))))
    pss_never
    pss_nil)
  (pss_cons (ps_expr (pe_bm PySem.F.plainAttrs_list PySem.F.slot_list_append PySem.F.type_list_append mt_append (pv 1) (pa_cons (pe_slice sl_list (pv 0) (po_some (pv 6)) (po_some (pv 7))) pa_nil)))
  (pss_one (ps_ret (pe_callTy call_tupN rfl T.z_tuple bi_tuple (pa_cons (pv 1) pa_nil))))))))))))), ?_⟩
    have A : Adv0 G H G H := .refl sG
    have o1 := ok.kind
    have o2 := ok.stamp
    have o3 := ok.num
    have o4 := ok.track
    have o5 := ok.ord
    have o6 := ok.time
    have o7 := ok.span
    have o8 := ok.key
    have o9 := ok.len
    generalize hbs : wLeaf l = bs at ha hr0
    have hw0 : bs = [(l.kind : Int)] ++ (fourB l.stamp ++ fourB l.num ++ putS l.track ++ putS l.ord ++ putS l.time ++ putS l.span ++ [(l.key : Int)] ++ putS l.body.length ++ l.body ++ fourB (crc (wBase l))) := by
      rw [← hbs]
      simp [wLeaf, wBase]
    have hw1 : bs = [(l.kind : Int)] ++ fourB l.stamp ++ (fourB l.num ++ putS l.track ++ putS l.ord ++ putS l.time ++ putS l.span ++ [(l.key : Int)] ++ putS l.body.length ++ l.body ++ fourB (crc (wBase l))) := by
      rw [hw0]
      simp
    have hw2 : bs = ([(l.kind : Int)] ++ fourB l.stamp) ++ fourB l.num ++ (putS l.track ++ putS l.ord ++ putS l.time ++ putS l.span ++ [(l.key : Int)] ++ putS l.body.length ++ l.body ++ fourB (crc (wBase l))) := by
      rw [hw0]
      simp
    generalize hf : [l.track, l.ord, l.time, l.span] = fs
    have hw3 : bs = ([(l.kind : Int)] ++ fourB l.stamp ++ fourB l.num) ++ fs.flatMap putS ++ ([(l.key : Int)] ++ putS l.body.length ++ l.body ++ fourB (crc (wBase l))) := by
      rw [hw0, ← hf]
      simp
    generalize hb0 : [(l.kind : Int)] ++ fourB l.stamp ++ fourB l.num = b0 at hw3
    have lb0 : b0.length = 9 := by rw [← hb0]; rfl
    have hfl : fs.length = 4 := by rw [← hf]; rfl
    walk_at "sp"
    refine ⟨G, .ref a, bs, 0, 0, l.kind, 4, sG, rfl, hr0, by rw [hw0]; rfl, rfl, o1, ?_⟩
    walk_at "sp"
    refine ⟨G, .ref a, _, _, l.stamp, 1, sG, rfl, hw1 ▸ hr0, by omega, fun v G1 H1 A1 ev => ?_⟩
    subst ev
    have A1' := A.call A1
    walk_at "sp"
    refine ⟨G1, .ref a, _, _, l.num, 2, A1.gh, rfl, hw2 ▸ hr0.mono A1.gg, by omega, fun v G2 H2 A2 ev => ?_⟩
    subst ev
    have A2' := A1'.call A2
    walk_at "sp"
    refine ⟨line_le (by walk_at "sp om"), S_newM A2' fun o H3 A3 co fo _ => ?_⟩
    walk_at "sp"
    refine S_rn2 (k := 4) rfl (by decide) (S_forR (fun i σ H4 => ∃ x3 x4 x5 x6 x7 G4, σ = [some (.ref a), some (.ref o), some (.int ((b0.length + ((fs.take i).flatMap putS).length : Nat) : Int)), x3, x4, x5, x6, x7] ∧ Adv0 G H G4 H4 ∧
      Cl No H G4 H4 o (.lst ([V.int l.kind, .int l.stamp, .int l.num] ++ (fs.take i).map (fun n : Nat => V.int n))) ∧ ((fs.take i).flatMap putS).length ≤ 6 * i) ⟨none, none, none, none, none, G2, ?_, A3, co, by simp⟩ ?_ ?_)
    · rw [lb0]
      rfl
    · rintro i σ H4 hi ⟨x3, x4, x5, x6, x7, G4, rfl, A4, co, lp⟩
      obtain ⟨n, hn⟩ : ∃ n, fs[i]? = some n := ⟨fs[i]'(by omega), List.getElem?_eq_getElem (by omega)⟩
      have hm : ∃ m : Nat, mostV[3 + i]? = some (.int m) ∧ n ≤ m ∧ n < 2 ^ 40 := by
        rw [← hf] at hn
        match i, hi, hn with
        | 0, _, hn => exact ⟨_, rfl, by cases hn; omega, by cases hn; omega⟩
        | 1, _, hn => exact ⟨_, rfl, by cases hn; omega, by cases hn; omega⟩
        | 2, _, hn => exact ⟨_, rfl, by cases hn; omega, by cases hn; omega⟩
        | 3, _, hn => exact ⟨_, rfl, by cases hn; omega, by cases hn; omega⟩
      obtain ⟨m, hm, hnm, hn40⟩ := hm
      walk_at "sp"
      have hsp : bs = (b0 ++ (fs.take i).flatMap putS) ++ putS n ++ ((fs.drop (i + 1)).flatMap putS ++ ([(l.key : Int)] ++ putS l.body.length ++ l.body ++ fourB (crc (wBase l)))) := by
        rw [hw3, flat_split hn]
        simp only [List.append_assoc]
      refine ⟨G4, .ref a, _, _, n, m, 3 + i, A4.gh, by rw [List.length_append]; simp, hsp ▸ hr0.mono A4.gg, hn40, hnm, by walk_at "sp om", fun v G5 H5 A5 rv => ?_⟩
      obtain ⟨pp, vs, rfl, hpp, rl⟩ := rv.tuple
      rcases rl with _ | ⟨⟨⟩, _ | ⟨⟨⟩, _ | _⟩⟩
      have A5' := A4.call A5
      have co := co.call A5
      have ln := putS_le hn40
      walk_at "sp"
      refine S_app' A5' co (by walk_at "sp om") fun H6 A6 co _ => ?_
      refine ⟨some (.int (3 + (i : Nat))), some (.int n), x5, x6, x7, G5, ?_, A6, co.as ?_, ?_⟩
      · rw [take_snoc hn]
        simp [Nat.add_assoc]
      · rw [take_snoc hn]
        simp
      · rw [take_snoc hn, List.flatMap_append, List.length_append]
        have : ([n].flatMap putS).length = (putS n).length := by simp
        omega
    · rintro σ H4 ⟨x3, x4, x5, x6, x7, G4, rfl, A4, co, lp⟩
      have htk : fs.take 4 = fs := List.take_of_length_le (by omega)
      rw [htk] at co lp ⊢
      generalize hp4 : b0 ++ fs.flatMap putS = p4 at hw3
      have lp4 : b0.length + (fs.flatMap putS).length = p4.length := by rw [← hp4, List.length_append]
      rw [lp4]
      have lpl : p4.length ≤ 33 := by omega
      walk_at "sp"
      have hk : bs[p4.length]? = some (l.key : Int) := by
        rw [hw3]
        simp
      refine ⟨G4, .ref a, bs, p4.length, 7, l.key, 1, A4.gh, rfl, hr0.mono A4.gg, hk, rfl, o8, ?_⟩
      have hw4 : bs = (p4 ++ [(l.key : Int)]) ++ putS l.body.length ++ (l.body ++ fourB (crc (wBase l))) := by
        rw [hw3]
        simp only [List.append_assoc]
      have lbs : bs.length = p4.length + 1 + (putS l.body.length).length + l.body.length + 4 := by
        rw [hw4]
        simp [fourB]
        omega
      have lbb := putS_le (n := l.body.length) (by omega)
      walk_at "sp"
      refine S_app' A4 co (by walk_at "sp om") fun H5 A5 co _ => ?_
      walk_at "sp"
      refine ⟨G4, .ref a, _, _, l.body.length, 1024, 8, A5.gh, by rw [List.length_append]; rfl, hw4 ▸ hr0.mono A5.gg, by omega, o9, by walk_at "sp om", fun v G6 H6 A6 rv => ?_⟩
      obtain ⟨pp, vs, rfl, hpp, rl⟩ := rv.tuple
      rcases rl with _ | ⟨⟨⟩, _ | ⟨⟨⟩, _ | _⟩⟩
      have A6' := A5.call A6
      have co := co.call A6
      have lpa : (p4 ++ [(l.key : Int)]).length = p4.length + 1 := by simp
      rw [lpa] at hpp
      walk_at "sp"
      have hbl : (bs.map V.int).length = bs.length := List.length_map _
      have ec : ((p4.length + 1 + (putS l.body.length).length : Nat) : Int) + (l.body.length : Nat) = ((p4.length + 1 + (putS l.body.length).length + l.body.length : Nat) : Int) := by omega
      have hbse : bs = wBase l ++ fourB (crc (wBase l)) := hbs.symm
      have lwb : p4.length + 1 + (putS l.body.length).length + l.body.length = (wBase l).length := by
        have := congrArg List.length hbse
        rw [List.length_append, lbs] at this
        simp only [fourB, List.length_cons, List.length_nil] at this
        omega
      rw [ec]
      refine S_slL (A6'.l ha) (S_newF A6' fun p7 G7 H7 A7 g7 hp7 mm => ?_)
      have co := mm _ _ co
      clear mm
      walk_at "sp"
      refine ⟨G7, .ref p7, crc (wBase l), A7.gh, rfl, rp_ints (ns := fourB (crc (wBase l))) ?_, crc_lt (wBase_bys ok), ?_⟩
      · rw [hp7, cut_lo (by rw [hbl]; omega), lwb, hbse]
        simp
      walk_at "sp"
      refine S_slL (A7.l ha) (S_newF A7 fun p8 G8 H8 A8 g8 hp8 mm => ?_)
      have co := mm _ _ co
      clear mm
      walk_at "sp"
      refine ⟨G8, .ref p8, wBase l, A8.gh, rfl, rp_ints ?_, wBase_bys ok, ?_⟩
      · rw [hp8, cut_hi (by rw [hbl]; omega), lwb, hbse]
        simp
      walk_at "sp"
      refine S_slL (A8.l ha) (S_newF A8 fun p9 G9 H9 A9 g9 hp9 mm => ?_)
      have co := mm _ _ co
      clear mm
      walk_at "sp"
      refine S_app' A9 co (by walk_at "sp om") fun H10 A10 co _ => ?_
      walk_at "sp"
      refine S_tupL co.l (S_newF A10 fun p11 G11 H11 A11 g11 hp11 _ => ?_)
      refine q _ _ _ A11 (rp_lf (b := p9) ?_ (g11 _ _ ?_))
      · rw [hp11, ← hf]
        rfl
      · rw [hp9, cut_nat (by omega) (by rw [hbl]; omega), ← List.map_drop, ← List.map_take, hw4]
        congr 2
        have e1 : p4.length + 1 + (putS l.body.length).length = (p4 ++ [(l.key : Int)] ++ putS l.body.length).length := by simp; omega
        rw [e1, List.drop_left]
        rw [Nat.add_sub_cancel_left, List.take_left]
def sp_unstuffed : Sp := fun vs H Q _ => ∃ (G : Hp) (r : V) (bs : List Int) (n : V), Same G H ∧ vs = [r, n] ∧ Rp G r (IntsD (stuffL bs)) ∧ Bys bs ∧ bs.length ≤ 10000 ∧ Post G H Q fun v G' => Rp G' v (IntsD bs)
theorem sc_unstuffed : FnScope n_unstuffed p_unstuffed (defScope s_unstuffed) := ⟨rfl, rfl, rfl, by decide +kernel, rfl, by decide +kernel, by decide +kernel⟩
theorem ok_unstuffed (T : Facts K mg) : FnOk P w K mg base CX0 2 (fA K "unstuffed") (fD K "unstuffed") p_unstuffed sp_unstuffed := by
  refine T.unstuffed.F.ok sc_unstuffed (fun vs H Q E h => ?_) (fun cdv A outer s H vs Q E hr h => ?_)
  · obtain ⟨G, r, bs, n, _, rfl, _⟩ := h
    rfl
  · obtain ⟨G, r, bs, n, sG, rfl, hr0, hby, hl, q⟩ := h
    refine ⟨_, PSs.nox (pss_one (ps_try_thru0 (pss_one (ps_ret (pe_call (ok_unstuff T) (hr.mono (by decide)) (by rfl) T.unstuff.g T.unstuff.kp T.unstuff.b .nil pass0 (pa_cons (pv 0) pa_nil)))))), ?_⟩
    walk_at "sp"
    exact ⟨G, r, bs, sG, rfl, hr0, hby, hl, q⟩
def sp_leaf_of : Sp := fun vs H Q _ => ∃ (G : Hp) (r : V) (l : Lf) (n : V), Same G H ∧ vs = [r, n] ∧ Rp G r (IntsD (wLeaf l)) ∧ LfOk l ∧ Post G H Q fun v G' => Rp G' v (LfD l)
theorem sc_leaf_of : FnScope n_leaf_of p_leaf_of (defScope s_leaf_of) := ⟨rfl, rfl, rfl, by decide +kernel, rfl, by decide +kernel, by decide +kernel⟩
theorem ok_leaf_of (T : Facts K mg) : FnOk P w K mg base CX0 4 (fA K "leaf_of") (fD K "leaf_of") p_leaf_of sp_leaf_of := by
  refine T.leaf_of.F.ok sc_leaf_of (fun vs H Q E h => ?_) (fun cdv A outer s H vs Q E hr h => ?_)
  · obtain ⟨G, r, l, n, _, rfl, _⟩ := h
    rfl
  · obtain ⟨G, r, l, n, sG, rfl, hr0, ok, q⟩ := h
    refine ⟨_, PSs.nox (pss_one (ps_try_thru0 (pss_one (ps_ret (pe_call (ok_read_leaf T) (hr.mono (by decide)) (by rfl) T.read_leaf.g T.read_leaf.kp T.read_leaf.b .nil pass0 (pa_cons (pv 0) pa_nil)))))), ?_⟩
    walk_at "sp"
    exact ⟨G, r, l, sG, rfl, hr0, ok, q⟩
end
/-! w8 -/
section
variable {P : Program} {w : World} {K : PySem.W.Frag} {mg : Str → Option Value} {base : Heap}
/-! ### texts and bodies -/
def sB (z : Str) : List Int := z.cps.toList.map fun c : Nat => (c : Int)
def tB (z : Str) : List Int := putS z.length ++ sB z
theorem sB_len (z : Str) : (sB z).length = z.length := by simp [sB, Str.length]
theorem tB_len {z : Str} (h : z.length ≤ 100) : (tB z).length ≤ 106 := by
  have := putS_le (n := z.length) (by omega)
  rw [tB, List.length_append, sB_len]
  omega
abbrev RowT := Str × Str × Nat
abbrev RowD (r : RowT) : PyData := .tuple [.str r.1, .str r.2.1, .int r.2.2]
def rB (r : RowT) : List Int := tB r.1 ++ tB r.2.1 ++ putS r.2.2
def hB (ticks skip : Nat) (rows : List RowT) : List Int := sB "spool" ++ putS 1 ++ putS ticks ++ putS skip ++ putS rows.length ++ rows.flatMap rB
structure RowOk (r : RowT) : Prop where
  name : r.1.length ≤ 32
  kind : r.2.1.length ≤ 16
  count : r.2.2 ≤ 300
theorem rB_len {r : RowT} (ok : RowOk r) : (rB r).length ≤ 218 := by
  have h1 := tB_len (Nat.le_trans ok.name (by decide : 32 ≤ 100))
  have h2 := tB_len (Nat.le_trans ok.kind (by decide : 16 ≤ 100))
  have h3 := putS_le (n := r.2.2) (by have := ok.count; omega)
  rw [rB, List.length_append, List.length_append]
  omega
def sp_bytes_of : Sp := fun vs H Q _ => ∃ (G : Hp) (z : Str), Same G H ∧ vs = [.str z] ∧ z.length ≤ 100000 ∧ Post G H Q fun v G' => Rp G' v (IntsD (sB z))
theorem sc_bytes_of : FnScope n_bytes_of p_bytes_of (defScope s_bytes_of) := ⟨rfl, rfl, rfl, by decide +kernel, rfl, by decide +kernel, by decide +kernel⟩
theorem ok_bytes_of (T : Facts K mg) : FnOk P w K mg base CX0 1 (fA K "bytes_of") (fD K "bytes_of") p_bytes_of sp_bytes_of := by
  refine T.bytes_of.F.ok sc_bytes_of (fun vs H Q E h => ?_) (fun cdv A outer s H vs Q E hr h => ?_)
  · obtain ⟨G, z, _, rfl, _⟩ := h
    rfl
  · obtain ⟨G, z, sG, rfl, hz, q⟩ := h
    refine ⟨_, PSs.nox (pss_one (ps_ret (pe_lc (own := [("char", 1)]) rfl sc_bytes_of.nd (pi_str (pv 0)) (blkOk_by (own := [("char", 1)]) (N := n_bytes_of) (sc := defScope s_bytes_of) (by decide +kernel)) (fun _ _ _ _ _ => (pg_name (i := 1) sc_bytes_of.nd rfl (.inl rfl))) (fun _ _ _ _ _ => pts_nil) (fun _ _ _ _ _ => (pe_callB call_ord rfl T.z_ord bi_ord (pa_cons (pv 1) pa_nil)))))), ?_⟩
    walk_at "sp"
    refine ⟨z, rfl, S_lcS (fun c => .int c) sG hz (fun i c G1 H1 hc A1 Qy qy => ?_) (fun D G' H' acc A' hD r => ?_)⟩
    · walk_at "sp"
      refine ⟨rfl, ?_⟩
      walk_at "sp"
      refine S_ord rfl ?_
      exact qy _ G1 H1 (.refl A1.gh) (.int _)
    · refine q _ G' H' A' (.lst hD ?_)
      have e : (sB z).map PyData.int = z.cps.toList.map fun c : Nat => PyData.int c := by simp [sB]
      rw [e]
      exact r
def sp_text_bytes : Sp := fun vs H Q _ => ∃ (G : Hp) (z : Str), Same G H ∧ vs = [.str z] ∧ z.length ≤ 100 ∧ Post G H Q fun v G' => Rp G' v (IntsD (tB z))
theorem sc_text_bytes : FnScope n_text_bytes p_text_bytes (defScope s_text_bytes) := ⟨rfl, rfl, rfl, by decide +kernel, rfl, by decide +kernel, by decide +kernel⟩
theorem ok_text_bytes (T : Facts K mg) : FnOk P w K mg base CX0 2 (fA K "text_bytes") (fD K "text_bytes") p_text_bytes sp_text_bytes := by
  refine T.text_bytes.F.ok sc_text_bytes (fun vs H Q E h => ?_) (fun cdv A outer s H vs Q E hr h => ?_)
  · obtain ⟨G, z, _, rfl, _⟩ := h
    rfl
  · obtain ⟨G, z, sG, rfl, hz, q⟩ := h
    refine ⟨_, PSs.nox (pss_one (ps_ret (pe_op op_cat (pe_call (ok_put_steps T) (hr.mono (by decide)) (by rfl) T.put_steps.g T.put_steps.kp T.put_steps.b .nil pass0 (pa_cons (pe_callB call_len_str rfl T.z_len bi_len (pa_cons (pv 0) pa_nil)) pa_nil)) (pe_call (ok_bytes_of T) (hr.mono (by decide)) (by rfl) T.bytes_of.g T.bytes_of.kp T.bytes_of.b .nil pass0 (pa_cons (pv 0) pa_nil))))), ?_⟩
    have A : Adv0 G H G H := .refl sG
    walk_at "sp"
    refine S_lenS (line_le (by omega)) ?_
    walk_at "sp"
    refine ⟨G, z.length, sG, rfl, by omega, S_postI A fun p1 G1 H1 A1 B1 hp1 => ?_⟩
    walk_at "sp"
    refine ⟨G1, z, A1.gh, rfl, by omega, S_postI A1 fun p2 G2 H2 A2 B2 hp2 => ?_⟩
    refine S_catF A2 (B2.gg _ _ hp1) hp2 ?_ fun p3 G3 H3 A3 _ hp3 _ => ?_
    · have := putS_le (n := z.length) (by omega)
      rw [sB_len]
      omega
    · exact q _ _ _ A3 (rp_ints hp3)
def sp_head_of_rows : Sp := fun vs H Q _ => ∃ (G : Hp) (tk sk : Nat) (r : V) (rows : List RowT), Same G H ∧ vs = [.int tk, .int sk, r] ∧ tk < 2 ^ 40 ∧ sk < 2 ^ 40 ∧ Rp G r (.list (rows.map RowD)) ∧ rows.length ≤ 15 ∧ (∀ x ∈ rows, RowOk x) ∧ Post G H Q fun v G' => Rp G' v (IntsD (hB tk sk rows))
theorem sc_head_of_rows : FnScope n_head_of_rows p_head_of_rows (defScope s_head_of_rows) := ⟨rfl, rfl, rfl, by decide +kernel, rfl, by decide +kernel, by decide +kernel⟩
theorem ok_head_of_rows (T : Facts K mg) : FnOk P w K mg base CX0 3 (fA K "head_of_rows") (fD K "head_of_rows") p_head_of_rows sp_head_of_rows := by
  refine T.head_of_rows.F.ok sc_head_of_rows (fun vs H Q E h => ?_) (fun cdv A outer s H vs Q E hr h => ?_)
  · obtain ⟨G, tk, sk, r, rows, _, rfl, _⟩ := h
    rfl
  · obtain ⟨G, tk, sk, r, rows, sG, rfl, ht, hs, hr0, hl, hok, q⟩ := h
    obtain ⟨a, xs, rfl, ha, hx⟩ := hr0.list
    refine ⟨_, PSs.nox (pss_cons (ps_set (i := 3) sc_head_of_rows.nd rfl (.inl rfl) (pe_op op_cat (pe_op op_cat (pe_op op_cat (pe_op op_cat (pe_call (ok_bytes_of T) (hr.mono (by decide)) (by rfl) T.bytes_of.g T.bytes_of.kp T.bytes_of.b .nil pass0 (pa_cons (pe_gs rfl T.g_LETTERS) pa_nil)) (pe_call (ok_put_steps T) (hr.mono (by decide)) (by rfl) T.put_steps.g T.put_steps.kp T.put_steps.b .nil pass0 (pa_cons (pe_gi rfl T.g_VERSION) pa_nil))) (pe_call (ok_put_steps T) (hr.mono (by decide)) (by rfl) T.put_steps.g T.put_steps.kp T.put_steps.b .nil pass0 (pa_cons (pv 0) pa_nil))) (pe_call (ok_put_steps T) (hr.mono (by decide)) (by rfl) T.put_steps.g T.put_steps.kp T.put_steps.b .nil pass0 (pa_cons (pv 1) pa_nil))) (pe_call (ok_put_steps T) (hr.mono (by decide)) (by rfl) T.put_steps.g T.put_steps.kp T.put_steps.b .nil pass0 (pa_cons (pe_callB call_len_seq rfl T.z_len bi_len (pa_cons (pv 2) pa_nil)) pa_nil))))
  (pss_cons (ps_for PassesOwn.never rfl (pi_list (pv 2)) (pg_tup rfl (pgs_cons (pg_name (i := 4) sc_head_of_rows.nd rfl (.inl rfl)) (pgs_cons (pg_name (i := 5) sc_head_of_rows.nd rfl (.inl rfl)) (pgs_cons (pg_name (i := 6) sc_head_of_rows.nd rfl (.inl rfl)) pgs_nil))))
    (pss_one (ps_expr (pe_bm PySem.F.plainAttrs_list PySem.F.slot_list_extend PySem.F.type_list_extend mt_extend (pv 3) (pa_cons (pe_op op_cat (pe_op op_cat (pe_call (ok_text_bytes T) (hr.mono (by decide)) (by rfl) T.text_bytes.g T.text_bytes.kp T.text_bytes.b .nil pass0 (pa_cons (pv 4) pa_nil)) (pe_call (ok_text_bytes T) (hr.mono (by decide)) (by rfl) T.text_bytes.g T.text_bytes.kp T.text_bytes.b .nil pass0 (pa_cons (pv 5) pa_nil))) (pe_call (ok_put_steps T) (hr.mono (by decide)) (by rfl) T.put_steps.g T.put_steps.kp T.put_steps.b .nil pass0 (pa_cons (pv 6) pa_nil))) pa_nil)))))
  (pss_one (ps_ret (pv 3))))), ?_⟩
    have A : Adv0 G H G H := .refl sG
    have lx : xs.length = rows.length := by rw [hx.len, List.length_map]
    have l1 := putS_le ht
    have l2 := putS_le hs
    have l3 := putS_le (n := rows.length) (by omega)
    have l4 : (sB "spool").length = 5 := by decide +kernel
    have l5 := putS_le (n := 1) (by omega)
    walk_at "sp"
    refine ⟨G, "spool", sG, rfl, by decide +kernel, S_postI A fun p1 G1 H1 A1 B1 hp1 => ?_⟩
    walk_at "sp"
    refine ⟨G1, 1, A1.gh, rfl, by omega, S_postI A1 fun p2 G2 H2 A2 B2 hp2 => ?_⟩
    walk_at "sp"
    refine S_catF A2 (B2.gg _ _ hp1) hp2 (by omega) fun p3 G3 H3 A3 g3 hp3 _ => ?_
    walk_at "sp"
    refine ⟨G3, tk, A3.gh, rfl, ht, S_postI A3 fun p4 G4 H4 A4 B4 hp4 => ?_⟩
    walk_at "sp"
    refine S_catF A4 (B4.gg _ _ hp3) hp4 (by walk_at "sp om") fun p5 G5 H5 A5 g5 hp5 _ => ?_
    walk_at "sp"
    refine ⟨G5, sk, A5.gh, rfl, hs, S_postI A5 fun p6 G6 H6 A6 B6 hp6 => ?_⟩
    walk_at "sp"
    refine S_catF A6 (B6.gg _ _ hp5) hp6 (by walk_at "sp om") fun p7 G7 H7 A7 g7 hp7 _ => ?_
    walk_at "sp"
    refine ⟨G7, rows.length, A7.gh, by rw [lx]; rfl, by omega, S_postI A7 fun p8 G8 H8 A8 B8 hp8 => ?_⟩
    walk_at "sp"
    refine S_cat (A8.at (B8.gg _ _ hp7)) (A8.at hp8) (by walk_at "sp om") (S_newM A8 fun o H9 A9 co fo _ => ?_)
    walk_at "sp"
    rw [← List.map_append] at co
    generalize hb0 : sB "spool" ++ putS 1 ++ putS tk ++ putS sk ++ putS rows.length = b0 at co
    have lb0 : b0.length ≤ 29 := by
      rw [← hb0]
      walk_at "sp om"
    refine S_forL (xs := xs) (fun i σ H2 => ∃ x4 x5 x6 G2, σ = [some (.int tk), some (.int sk), some (.ref a), some (.ref o), x4, x5, x6] ∧ Adv0 G H G2 H2 ∧ Cl No H G2 H2 o (.lst ((b0 ++ (rows.take i).flatMap rB).map V.int)) ∧ ((rows.take i).flatMap rB).length ≤ 218 * i)
      ⟨none, none, none, G8, rfl, A9, co.as (by simp), by simp⟩ (fun i σ H2 _ ⟨_, _, _, _, _, A2, _⟩ => A2.l ha) ?_ ?_
    · rintro i x σ H2 hxi ⟨x4, x5, x6, G2, rfl, A2, co, ll⟩
      obtain ⟨d, hd, rx⟩ := hx.getV hxi
      rw [List.getElem?_map] at hd
      obtain ⟨⟨nm, kd, ct⟩, hri, rfl⟩ := Option.map_eq_some_iff.mp hd
      obtain ⟨t, ys, rfl, hty, rl⟩ := rx.tuple
      rcases rl with _ | ⟨⟨⟩, _ | ⟨⟨⟩, _ | ⟨⟨⟩, _ | _⟩⟩⟩
      have okr := hok _ (List.mem_of_getElem? hri)
      have k1 := okr.name
      have k2 := okr.kind
      have k3 := okr.count
      simp only at k1 k2 k3
      have m1 := tB_len (z := nm) (by omega)
      have m2 := tB_len (z := kd) (by omega)
      have m3 := putS_le (n := ct) (by omega)
      have hi : i < rows.length := (List.getElem?_eq_some_iff.mp hri).1
      walk_at "sp"
      refine ⟨G2, nm, A2.gh, rfl, by omega, S_postI A2 fun p1 G1 H1 A1 B1 hp1 => ?_⟩
      have co := co.call B1
      walk_at "sp"
      refine ⟨G1, kd, A1.gh, rfl, by omega, S_postI A1 fun p2 G2 H2 A2 B2 hp2 => ?_⟩
      have co := co.call B2
      walk_at "sp"
      refine S_catF A2 (B2.gg _ _ hp1) hp2 (by omega) fun p3 G3 H3 A3 g3 hp3 mm => ?_
      have co := mm _ _ co
      clear mm
      walk_at "sp"
      refine ⟨G3, ct, A3.gh, rfl, by omega, S_postI A3 fun p4 G4 H4 A4 B4 hp4 => ?_⟩
      have co := co.call B4
      walk_at "sp"
      refine S_catF A4 (B4.gg _ _ hp3) hp4 (by walk_at "sp om") fun p5 G5 H5 A5 g5 hp5 mm => ?_
      have co := mm _ _ co
      clear mm
      walk_at "sp"
      refine S_ext A5 co (A5.at hp5) (by walk_at "sp om") fun H6 A6 co _ => ?_
      have e : (rows.take (i + 1)).flatMap rB = (rows.take i).flatMap rB ++ (tB nm ++ tB kd ++ putS ct) := by
        rw [take_snoc hri, List.flatMap_append]
        simp [rB]
      refine ⟨_, _, _, G5, rfl, A6, co.as ?_, ?_⟩
      · rw [e]
        simp
      · rw [e]
        walk_at "sp om"
    · rintro σ H2 ⟨x4, x5, x6, G2, rfl, A2, co, ll⟩
      rw [lx, List.take_length] at co
      walk_at "sp"
      have A3 := A2.still fo co.h co.g
      refine q _ _ _ A3 (rp_ints ?_)
      rw [upd_same, ← hb0]
      rfl
end
/-! w9 -/
section
variable {P : Program} {w : World} {K : PySem.W.Frag} {mg : Str → Option Value} {base : Heap}
/-! ### patches -/
def lcpN : List Int → List Int → Nat → Nat
  | x :: xs, y :: ys, m + 1 => if x = y then lcpN xs ys m + 1 else 0
  | _, _, _ => 0
theorem lcpN_le : ∀ (xs ys : List Int) (m : Nat), lcpN xs ys m ≤ m ∧ lcpN xs ys m ≤ xs.length ∧ lcpN xs ys m ≤ ys.length
  | [], _, _ => by simp [lcpN]
  | _ :: _, [], _ => by simp [lcpN]
  | _ :: _, _ :: _, 0 => by simp [lcpN]
  | x :: xs, y :: ys, m + 1 => by
    have := lcpN_le xs ys m
    unfold lcpN
    split
    · simp only [List.length_cons]
      omega
    · simp
theorem lcpN_take : ∀ (xs ys : List Int) (m : Nat), xs.take (lcpN xs ys m) = ys.take (lcpN xs ys m)
  | [], _, _ => by simp [lcpN]
  | _ :: _, [], _ => by simp [lcpN]
  | _ :: _, _ :: _, 0 => by simp [lcpN]
  | x :: xs, y :: ys, m + 1 => by
    unfold lcpN
    split
    · rename_i h
      rw [h, List.take_succ_cons, List.take_succ_cons, lcpN_take xs ys m]
    · rfl
theorem lcpN_go {xs ys : List Int} {m s : Nat} {x y : Int} (h1 : xs[s]? = some x) (h2 : ys[s]? = some y) (h : s < m) : lcpN (xs.drop s) (ys.drop s) (m - s) = if x = y then lcpN (xs.drop (s + 1)) (ys.drop (s + 1)) (m - (s + 1)) + 1 else 0 := by
  rw [drop_cons h1, drop_cons h2, show m - s = (m - (s + 1)) + 1 by omega, lcpN]
def chF (old new : List Int) : Nat := lcpN old new (min old.length new.length)
def chB (old new : List Int) : Nat := lcpN old.reverse new.reverse (min old.length new.length - chF old new)
def chM (old new : List Int) : List Int := (new.drop (chF old new)).take (new.length - chB old new - chF old new)
theorem ch_le (old new : List Int) : chF old new + chB old new ≤ old.length ∧ chF old new + chB old new ≤ new.length := by
  have h1 := lcpN_le old new (min old.length new.length)
  have h2 := lcpN_le old.reverse new.reverse (min old.length new.length - chF old new)
  unfold chB
  unfold chF at h2 ⊢
  omega
theorem ch_back (old new : List Int) : old.take (chF old new) ++ chM old new ++ old.drop (old.length - chB old new) = new := by
  have h0 := ch_le old new
  have h1 : old.take (chF old new) = new.take (chF old new) := lcpN_take _ _ _
  have h2 : old.reverse.take (chB old new) = new.reverse.take (chB old new) := lcpN_take _ _ _
  rw [List.take_reverse, List.take_reverse] at h2
  have h3 := List.reverse_inj.mp h2
  rw [h1, h3]
  unfold chM
  have e : new.drop (new.length - chB old new) = (new.drop (chF old new)).drop (new.length - chB old new - chF old new) := by
    rw [List.drop_drop]
    congr 1
    omega
  rw [e, List.append_assoc, List.take_append_drop, List.take_append_drop]
def sp_alike : Sp := fun vs H Q _ => ∃ (G : Hp) (r1 r2 : V) (xs ys : List Int) (m : Nat), Same G H ∧ vs = [r1, r2, .int m] ∧ Rp G r1 (IntsD xs) ∧ Rp G r2 (IntsD ys) ∧ m ≤ xs.length ∧ m ≤ ys.length ∧ Q (.int (lcpN xs ys m)) H
theorem sc_alike : FnScope n_alike p_alike (defScope s_alike) := ⟨rfl, rfl, rfl, by decide +kernel, rfl, by decide +kernel, by decide +kernel⟩
theorem ok_alike (T : Facts K mg) : FnOk P w K mg base CX0 1 (fA K "alike") (fD K "alike") p_alike sp_alike := by
  refine T.alike.F.ok sc_alike (fun vs H Q E h => ?_) (fun cdv A outer s H vs Q E hr h => ?_)
  · obtain ⟨G, r1, r2, xs, ys, m, _, rfl, _⟩ := h
    rfl
  · obtain ⟨G, r1, r2, xs, ys, m, sG, rfl, hr1, hr2, l1, l2, q⟩ := h
    obtain ⟨a, rfl, ha⟩ := hr1.ints
    obtain ⟨b, rfl, hb⟩ := hr2.ints
    refine ⟨_, PSs.nox (pss_cons (ps_set (i := 3) sc_alike.nd rfl (.inl rfl) pe_int)
  (pss_cons (ps_while PassesOwn.never (PW.pt (pw_and (pt_cmpR op_lt (pv 3) (pv 2) (nomark _)) (pw_and1 (pt_cmpR op_eq (pe_ix ix_list (pv 0) (pv 3) (fun _ _ => rfl)) (pe_ix ix_list (pv 1) (pv 3) (fun _ _ => rfl)) (nomark _)))))
    (pss_one (ps_set (i := 3) sc_alike.nd rfl (.inl rfl) (pe_op op_add (pv 3) pe_int))))
  (pss_one (ps_ret (pv 3))))), ?_⟩
    walk_at "sp"
    refine ⟨fun n σ H1 => ∃ s : Nat, σ = [some (.ref a), some (.ref b), some (.int m), some (.int s)] ∧ H = H1 ∧ s ≤ m ∧ n = m - s ∧ s + lcpN (xs.drop s) (ys.drop s) (m - s) = lcpN xs ys m, ⟨m, 0, rfl, rfl, Nat.zero_le _, rfl, by simp⟩, ?_⟩
    rintro n σ H1 ⟨s, rfl, rfl, hs, rfl, e⟩
    by_cases lt : s < m
    · have h1 : xs[s]? = some (xs[s]'(by omega)) := List.getElem?_eq_getElem (by omega)
      have h2 : ys[s]? = some (ys[s]'(by omega)) := List.getElem?_eq_getElem (by omega)
      generalize xs[s]'(by omega) = x at h1
      generalize ys[s]'(by omega) = y at h2
      rw [lcpN_go h1 h2 lt] at e
      walk_at "sp"
      by_cases c : x = y
      · rw [if_pos c] at e
        walk_at "sp"
        refine ⟨fun σ' H' => _, fun σ' H' z => z, ?_⟩
        walk_at "sp"
        exact ⟨m - (s + 1), by omega, s + 1, rfl, rfl, by omega, rfl, by omega⟩
      · rw [if_neg c] at e
        walk_at "sp"
        rw [← e] at q
        exact q
    · have : m - s = 0 := by omega
      rw [this] at e
      have z : lcpN (xs.drop s) (ys.drop s) 0 = 0 := Nat.le_zero.mp (lcpN_le _ _ 0).1
      rw [z] at e
      walk_at "sp"
      rw [← e] at q
      exact q
abbrev ChD (old new : List Int) : PyData := .tuple [.int (chF old new), .int (chB old new), IntsD (chM old new)]
def sp_change : Sp := fun vs H Q _ => ∃ (G : Hp) (r1 r2 : V) (xs ys : List Int), Same G H ∧ vs = [r1, r2] ∧ Rp G r1 (IntsD xs) ∧ Rp G r2 (IntsD ys) ∧ Post G H Q fun v G' => Rp G' v (ChD xs ys)
theorem sc_change : FnScope n_change p_change (defScope s_change) := ⟨rfl, rfl, rfl, by decide +kernel, rfl, by decide +kernel, by decide +kernel⟩
theorem ok_change (T : Facts K mg) : FnOk P w K mg base CX0 2 (fA K "change") (fD K "change") p_change sp_change := by
  refine T.change.F.ok sc_change (fun vs H Q E h => ?_) (fun cdv A outer s H vs Q E hr h => ?_)
  · obtain ⟨G, r1, r2, xs, ys, _, rfl, _⟩ := h
    rfl
  · obtain ⟨G, r1, r2, xs, ys, sG, rfl, hr1, hr2, q⟩ := h
    obtain ⟨a, rfl, ha⟩ := hr1.ints
    obtain ⟨b, rfl, hb⟩ := hr2.ints
    refine ⟨_, PSs.nox (pss_cons (ps_set (i := 2) sc_change.nd rfl (.inl rfl) (pe_callB (call_min2 rfl) rfl T.z_min bi_min (pa_cons (pe_callB call_len_seq rfl T.z_len bi_len (pa_cons (pv 0) pa_nil)) (pa_cons (pe_callB call_len_seq rfl T.z_len bi_len (pa_cons (pv 1) pa_nil)) pa_nil))))
  (pss_cons (ps_set (i := 3) sc_change.nd rfl (.inl rfl) (pe_call (ok_alike T) (hr.mono (by decide)) (by rfl) T.alike.g T.alike.kp T.alike.b .nil pass0 (pa_cons (pv 0) (pa_cons (pv 1) (pa_cons (pv 2) pa_nil)))))
  (pss_cons (ps_set (i := 4) sc_change.nd rfl (.inl rfl) (pe_call (ok_alike T) (hr.mono (by decide)) (by rfl) T.alike.g T.alike.kp T.alike.b .nil pass0 (pa_cons (pe_revL (pv 0)) (pa_cons (pe_revL (pv 1)) (pa_cons (pe_op op_sub (pv 2) (pv 3)) pa_nil)))))
  (pss_one (ps_ret (pe_tup (pa_cons (pv 3) (pa_cons (pv 4) (pa_cons (pe_slice sl_list (pv 1) (po_some (pv 3)) (po_some (pe_op op_sub (pe_callB call_len_seq rfl T.z_len bi_len (pa_cons (pv 1) pa_nil)) (pv 4)))) pa_nil))))))))), ?_⟩
    have A : Adv0 G H G H := .refl sG
    walk_at "sp"
    refine ⟨_, _, rfl, ?_⟩
    rw [List.length_map, List.length_map, show (if ((ys.length : Nat) : Int) < (xs.length : Nat) then ((ys.length : Nat) : Int) else ((xs.length : Nat) : Int)) = ((min xs.length ys.length : Nat) : Int) by split <;> omega]
    have h0 := ch_le xs ys
    walk_at "sp"
    refine ⟨G, .ref a, .ref b, xs, ys, min xs.length ys.length, sG, rfl, hr1, hr2, by omega, by omega, ?_⟩
    rw [show lcpN xs ys (min xs.length ys.length) = chF xs ys from rfl]
    walk_at "sp"
    refine S_rev (A.l ha) (S_newF A fun p1 G1 H1 A1 g1 hp1 _ => ?_)
    walk_at "sp"
    refine S_rev (A1.l hb) (S_newF A1 fun p2 G2 H2 A2 g2 hp2 _ => ?_)
    walk_at "sp"
    refine ⟨G2, .ref p1, .ref p2, xs.reverse, ys.reverse, min xs.length ys.length - chF xs ys, A2.gh, ?_, rp_ints ?_, rp_ints ?_, by rw [List.length_reverse]; omega, by rw [List.length_reverse]; omega, ?_⟩
    · have : chF xs ys ≤ min xs.length ys.length := (lcpN_le _ _ _).1
      rw [Int.ofNat_sub this]
      rfl
    · rw [g2 _ _ hp1, List.map_reverse]
    · rw [hp2, List.map_reverse]
    rw [show lcpN xs.reverse ys.reverse (min xs.length ys.length - chF xs ys) = chB xs ys from rfl]
    walk_at "sp"
    refine S_slL (A2.l hb) (S_newF A2 fun p3 G3 H3 A3 g3 hp3 _ => ?_)
    walk_at "sp"
    refine ⟨line_le (by walk_at "sp om"), S_newF A3 fun p4 G4 H4 A4 g4 hp4 _ => ?_⟩
    refine q _ _ _ A4 (.tup hp4 (.cons (.int _) (.cons (.int _) (.cons (rp_ints (g4 _ _ ?_)) .nil))))
    rw [hp3, List.length_map, show ((ys.length : Nat) : Int) - (chB xs ys : Nat) = ((ys.length - chB xs ys : Nat) : Int) by omega, cut_nat (by omega) (by rw [List.length_map]; omega), ← List.map_drop, ← List.map_take]
    rfl
theorem Rp.ch {G : Hp} {v : V} {x y : List Int} (h : Rp G v (ChD x y)) : ∃ a b, v = .ref a ∧ G a = some (.tup [.int (chF x y), .int (chB x y), .ref b]) ∧ G b = some (.lst ((chM x y).map V.int)) := by
  obtain ⟨a, vs, rfl, ha, rl⟩ := h.tuple
  rcases rl with _ | ⟨⟨⟩, _ | ⟨⟨⟩, _ | ⟨rb, _ | _⟩⟩⟩
  obtain ⟨b, rfl, hb⟩ := rb.ints
  exact ⟨a, b, rfl, ha, hb⟩
theorem shp_ch (x y : List Int) : Shp 2 (ChD x y) := .tup (shp_cons (.int _ _) (shp_cons (.int _ _) (shp_cons (.ints _ _) shp_nil)))
def sp_changed : Sp := fun vs H Q _ => ∃ (G : Hp) (r1 r2 : V) (xs ys : List Int), Same G H ∧ vs = [r1, r2] ∧ Rp G r1 (IntsD xs) ∧ Rp G r2 (ChD xs ys) ∧ xs.length ≤ 1000 ∧ ys.length ≤ 1000 ∧ Post G H Q fun v G' => Rp G' v (IntsD ys)
theorem sc_changed : FnScope n_changed p_changed (defScope s_changed) := ⟨rfl, rfl, rfl, by decide +kernel, rfl, by decide +kernel, by decide +kernel⟩
theorem ok_changed (T : Facts K mg) : FnOk P w K mg base CX0 3 (fA K "changed") (fD K "changed") p_changed sp_changed := by
  refine T.changed.F.ok sc_changed (fun vs H Q E h => ?_) (fun cdv A outer s H vs Q E hr h => ?_)
  · obtain ⟨G, r1, r2, xs, ys, _, rfl, _⟩ := h
    rfl
  · obtain ⟨G, r1, r2, xs, ys, sG, rfl, hr1, hr2, l1, l2, q⟩ := h
    obtain ⟨a, rfl, ha⟩ := hr1.ints
    obtain ⟨b, c, rfl, hb, hc⟩ := hr2.ch
    refine ⟨_, PSs.nox (pss_cons (ps_asg (pv 1) (pg_tup rfl (pgs_cons (pg_name (i := 2) sc_changed.nd rfl (.inl rfl)) (pgs_cons (pg_name (i := 3) sc_changed.nd rfl (.inl rfl)) (pgs_cons (pg_name (i := 4) sc_changed.nd rfl (.inl rfl)) pgs_nil)))))
  (pss_cons (ps_if (pt_cmpR op_gt (pe_op op_add (pv 2) (pv 3)) (pe_callB call_len_seq rfl T.z_len bi_len (pa_cons (pv 0) pa_nil)) (nomark _))
    pss_never
    pss_nil)
  (pss_cons (ps_set (i := 5) sc_changed.nd rfl (.inl rfl) (pe_op op_cat (pe_op op_cat (pe_slice sl_list (pv 0) po_none (po_some (pv 2))) (pv 4)) (pe_slice sl_list (pv 0) (po_some (pe_op op_sub (pe_callB call_len_seq rfl T.z_len bi_len (pa_cons (pv 0) pa_nil)) (pv 3))) po_none)))
  (pss_cons (ps_if (pt_cmpR (op_neD hr.units) (pe_call (ok_change T) (hr.mono (by decide)) (by rfl) T.change.g T.change.kp T.change.b .nil pass0 (pa_cons (pv 0) (pa_cons (pv 5) pa_nil))) (pe_tup (pa_cons (pv 2) (pa_cons (pv 3) (pa_cons (pv 4) pa_nil)))) (nomark _))
    pss_never
    pss_nil)
  (pss_one (ps_ret (pv 5))))))), ?_⟩
    have A : Adv0 G H G H := .refl sG
    have h0 := ch_le xs ys
    have hcm : (chM xs ys).length ≤ ys.length := by
      unfold chM
      rw [List.length_take, List.length_drop]
      omega
    walk_at "sp"
    refine S_slL (A.l ha) (S_newF A fun p1 G1 H1 A1 g1 hp1 _ => ?_)
    rw [cut_hi (by rw [List.length_map]; omega), ← List.map_take] at hp1
    walk_at "sp"
    refine S_catF A1 hp1 (A1.gg _ _ hc) (by walk_at "sp om") fun p2 G2 H2 A2 g2 hp2 _ => ?_
    walk_at "sp"
    refine S_slL (A2.l ha) (S_newF A2 fun p3 G3 H3 A3 g3 hp3 _ => ?_)
    rw [List.length_map, show ((xs.length : Nat) : Int) - (chB xs ys : Nat) = ((xs.length - chB xs ys : Nat) : Int) by omega, cut_lo (by rw [List.length_map]; omega), ← List.map_drop] at hp3
    refine S_catF A3 (g3 _ _ hp2) hp3 (by walk_at "sp om") fun p4 G4 H4 A4 g4 hp4 _ => ?_
    rw [ch_back] at hp4
    walk_at "sp"
    refine ⟨G4, .ref a, .ref p4, xs, ys, A4.gh, rfl, rp_ints (A4.gg _ _ ha), rp_ints hp4, fun v G5 H5 B5 rv => ?_⟩
    have A5 := A4.call B5
    walk_at "sp"
    refine ⟨line_le (by walk_at "sp om"), S_newF A5 fun p6 G6 H6 A6 g6 hp6 _ => ?_⟩
    refine ⟨_, _, (rv.mono g6).dp A6.gh, (Rp.tup (ds := [.int (chF xs ys), .int (chB xs ys), IntsD (chM xs ys)]) hp6 (.cons (.int _) (.cons (.int _) (.cons (rp_ints (A6.gg _ _ hc)) .nil)))).dp A6.gh, (shp_ch _ _).shaped (by decide), (shp_ch _ _).shaped (by decide), ?_⟩
    rw [(shp_ch xs ys).eqv]
    walk_at "sp"
    exact q _ _ _ A6 (rp_ints (g6 _ _ (B5.gg _ _ hp4)))
/-! ### bodies of units -/
structure Un where
  time : Nat
  span : Nat
  content : List Int
  leans : Bool
abbrev UnD (u : Un) : PyData := .tuple [.int u.time, .int u.span, IntsD u.content, .bool u.leans]
def encB (before : List Int) (u : Un) : List Int := if u.leans = true then putS (chF before u.content) ++ putS (chB before u.content) ++ chM before u.content else u.content
theorem Rp.un {G : Hp} {v : V} {u : Un} (h : Rp G v (UnD u)) : ∃ a b, v = .ref a ∧ G a = some (.tup [.int u.time, .int u.span, .ref b, .bl u.leans]) ∧ G b = some (.lst (u.content.map V.int)) := by
  obtain ⟨a, vs, rfl, ha, rl⟩ := h.tuple
  rcases rl with _ | ⟨⟨⟩, _ | ⟨⟨⟩, _ | ⟨rb, _ | ⟨⟨⟩, _ | _⟩⟩⟩⟩
  obtain ⟨b, rfl, hb⟩ := rb.ints
  exact ⟨a, b, rfl, ha, hb⟩
def sp_unit_body : Sp := fun vs H Q _ => ∃ (G : Hp) (r1 r2 : V) (u : Un) (before : List Int), Same G H ∧ vs = [r1, r2] ∧ Rp G r1 (UnD u) ∧ (u.leans = true → Rp G r2 (IntsD before)) ∧ before.length ≤ 1000 ∧ u.content.length ≤ 1000 ∧ Post G H Q fun v G' => Rp G' v (IntsD (encB before u))
theorem sc_unit_body : FnScope n_unit_body p_unit_body (defScope s_unit_body) := ⟨rfl, rfl, rfl, by decide +kernel, rfl, by decide +kernel, by decide +kernel⟩
theorem ok_unit_body (T : Facts K mg) : FnOk P w K mg base CX0 3 (fA K "unit_body") (fD K "unit_body") p_unit_body sp_unit_body := by
  refine T.unit_body.F.ok sc_unit_body (fun vs H Q E h => ?_) (fun cdv A outer s H vs Q E hr h => ?_)
  · obtain ⟨G, r1, r2, u, before, _, rfl, _⟩ := h
    rfl
  · obtain ⟨G, r1, r2, u, before, sG, rfl, hr1, hr2, l1, l2, q⟩ := h
    obtain ⟨a, b, rfl, ha, hb⟩ := hr1.un
    refine ⟨_, PSs.nox (pss_cons (ps_asg (pv 0) (pg_tup rfl (pgs_cons (pg_name (i := 2) sc_unit_body.nd rfl (.inl rfl)) (pgs_cons (pg_name (i := 2) sc_unit_body.nd rfl (.inl rfl)) (pgs_cons (pg_name (i := 3) sc_unit_body.nd rfl (.inl rfl)) (pgs_cons (pg_name (i := 4) sc_unit_body.nd rfl (.inl rfl)) pgs_nil))))))
  (pss_cons (ps_if (pt_not (pt_val (pv 4)))
    (pss_one (ps_ret (pe_callTy call_listN rfl T.z_list bi_list (pa_cons (pv 3) pa_nil))))
    pss_nil)
  (pss_cons (ps_asg (pe_call (ok_change T) (hr.mono (by decide)) (by rfl) T.change.g T.change.kp T.change.b .nil pass0 (pa_cons (pv 1) (pa_cons (pv 3) pa_nil))) (pg_tup rfl (pgs_cons (pg_name (i := 5) sc_unit_body.nd rfl (.inl rfl)) (pgs_cons (pg_name (i := 6) sc_unit_body.nd rfl (.inl rfl)) (pgs_cons (pg_name (i := 7) sc_unit_body.nd rfl (.inl rfl)) pgs_nil)))))
  (pss_one (ps_ret (pe_op op_cat (pe_op op_cat (pe_call (ok_put_steps T) (hr.mono (by decide)) (by rfl) T.put_steps.g T.put_steps.kp T.put_steps.b .nil pass0 (pa_cons (pv 5) pa_nil)) (pe_call (ok_put_steps T) (hr.mono (by decide)) (by rfl) T.put_steps.g T.put_steps.kp T.put_steps.b .nil pass0 (pa_cons (pv 6) pa_nil))) (pv 7))))))), ?_⟩
    have A : Adv0 G H G H := .refl sG
    walk_at "sp"
    cases hl : u.leans with
    | false =>
      walk_at "sp"
      refine S_listL (A.l hb) (S_newF A fun p1 G1 H1 A1 g1 hp1 _ => ?_)
      refine q _ _ _ A1 (rp_ints ?_)
      rw [encB, hl, if_neg (by decide)]
      exact hp1
    | true =>
      have hr2 := hr2 hl
      obtain ⟨c, rfl, hc⟩ := hr2.ints
      have h0 := ch_le before u.content
      walk_at "sp"
      refine ⟨G, .ref c, .ref b, before, u.content, sG, rfl, hr2, rp_ints hb, fun v G1 H1 B1 rv => ?_⟩
      have A1 := A.call B1
      obtain ⟨d, e, rfl, hd, he⟩ := rv.ch
      have hcm : (chM before u.content).length ≤ u.content.length := by
        unfold chM
        rw [List.length_take, List.length_drop]
        omega
      have m1 := putS_le (n := chF before u.content) (by omega)
      have m2 := putS_le (n := chB before u.content) (by omega)
      walk_at "sp"
      refine ⟨G1, chF before u.content, A1.gh, rfl, by omega, S_postI A1 fun p2 G2 H2 A2 B2 hp2 => ?_⟩
      walk_at "sp"
      refine ⟨G2, chB before u.content, A2.gh, rfl, by omega, S_postI A2 fun p3 G3 H3 A3 B3 hp3 => ?_⟩
      refine S_catF A3 (B3.gg _ _ hp2) hp3 (by omega) fun p4 G4 H4 A4 g4 hp4 _ => ?_
      walk_at "sp"
      refine S_catF A4 hp4 (g4 _ _ (B3.gg _ _ (B2.gg _ _ he))) (by walk_at "sp om") fun p5 G5 H5 A5 g5 hp5 _ => ?_
      refine q _ _ _ A5 (rp_ints ?_)
      rw [encB, hl, if_pos rfl]
      exact hp5
end
/-! w10 -/
section
variable {P : Program} {w : World} {K : PySem.W.Frag} {mg : Str → Option Value} {base : Heap}
abbrev TagT := Str × Str
abbrev TagD (t : TagT) : PyData := .tuple [.str t.1, .str t.2]
def tgB (t : TagT) : List Int := tB t.1 ++ tB t.2
def gB (tags : List TagT) : List Int := putS tags.length ++ tags.flatMap tgB
def TagS (t : TagT) : Prop := t.1.length ≤ 16 ∧ t.2.length ≤ 16
theorem tB_len2 {z : Str} {n : Nat} (h : z.length ≤ n) (hn : n ≤ 100) : (tB z).length ≤ n + 6 := by
  have := putS_le (n := z.length) (by omega)
  rw [tB, List.length_append, sB_len]
  omega
theorem tgB_len {t : TagT} (h : TagS t) : (tgB t).length ≤ 44 := by
  have h1 := tB_len2 h.1 (by decide)
  have h2 := tB_len2 h.2 (by decide)
  rw [tgB, List.length_append]
  omega
theorem flat_len {α : Type} {f : α → List Int} {n : Nat} : ∀ {xs : List α}, (∀ x ∈ xs, (f x).length ≤ n) → (xs.flatMap f).length ≤ n * xs.length
  | [], _ => by simp
  | x :: xs, h => by
    have h1 := h x List.mem_cons_self
    have h2 := flat_len (xs := xs) fun y hy => h y (List.mem_cons_of_mem _ hy)
    rw [List.flatMap_cons, List.length_append, List.length_cons, Nat.mul_add, Nat.mul_one]
    omega
theorem gB_len {tags : List TagT} (h : ∀ t ∈ tags, TagS t) (hl : tags.length ≤ 10) : (gB tags).length ≤ 446 := by
  have h1 := flat_len (f := tgB) (n := 44) fun t ht => tgB_len (h t ht)
  have h2 := putS_le (n := tags.length) (by omega)
  rw [gB, List.length_append]
  omega
def sp_tags_body : Sp := fun vs H Q _ => ∃ (G : Hp) (r : V) (tags : List TagT), Same G H ∧ vs = [r] ∧ Rp G r (.list (tags.map TagD)) ∧ tags.length ≤ 10 ∧ (∀ t ∈ tags, TagS t) ∧ Post G H Q fun v G' => Rp G' v (IntsD (gB tags))
theorem sc_tags_body : FnScope n_tags_body p_tags_body (defScope s_tags_body) := ⟨rfl, rfl, rfl, by decide +kernel, rfl, by decide +kernel, by decide +kernel⟩
theorem ok_tags_body (T : Facts K mg) : FnOk P w K mg base CX0 3 (fA K "tags_body") (fD K "tags_body") p_tags_body sp_tags_body := by
  refine T.tags_body.F.ok sc_tags_body (fun vs H Q E h => ?_) (fun cdv A outer s H vs Q E hr h => ?_)
  · obtain ⟨G, r, tags, _, rfl, _⟩ := h
    rfl
  · obtain ⟨G, r, tags, sG, rfl, hr0, hl, hok, q⟩ := h
    obtain ⟨a, xs, rfl, ha, hx⟩ := hr0.list
    refine ⟨_, PSs.nox (pss_cons (ps_set (i := 1) sc_tags_body.nd rfl (.inl rfl) (pe_call (ok_put_stepsN T) (hr.mono (by decide)) (by rfl) T.put_steps.g T.put_steps.kp T.put_steps.b .nil pass0 (pa_cons (pe_callB call_len_seq rfl T.z_len bi_len (pa_cons (pv 0) pa_nil)) pa_nil)))
  (pss_cons (ps_for PassesOwn.never rfl (pi_list (pv 0)) (pg_tup rfl (pgs_cons (pg_name (i := 2) sc_tags_body.nd rfl (.inl rfl)) (pgs_cons (pg_name (i := 3) sc_tags_body.nd rfl (.inl rfl)) pgs_nil)))
    (pss_one (ps_expr (pe_bm PySem.F.plainAttrs_list PySem.F.slot_list_extend PySem.F.type_list_extend mt_extend (pv 1) (pa_cons (pe_op op_cat (pe_call (ok_text_bytes T) (hr.mono (by decide)) (by rfl) T.text_bytes.g T.text_bytes.kp T.text_bytes.b .nil pass0 (pa_cons (pv 2) pa_nil)) (pe_call (ok_text_bytes T) (hr.mono (by decide)) (by rfl) T.text_bytes.g T.text_bytes.kp T.text_bytes.b .nil pass0 (pa_cons (pv 3) pa_nil))) pa_nil)))))
  (pss_one (ps_ret (pv 1))))), ?_⟩
    have A : Adv0 G H G H := .refl sG
    have lx : xs.length = tags.length := by rw [hx.len, List.length_map]
    have l3 := putS_le (n := tags.length) (by omega)
    walk_at "sp"
    refine ⟨G, tags.length, sG, by rw [lx]; rfl, by omega, fun o G1 H1 B1 mo => ?_⟩
    have A1 := A.call B1
    have co : Cl No H G1 H1 o _ := mo.cl
    have fo := mo.f
    walk_at "sp"
    refine S_forL (xs := xs) (fun i σ H2 => ∃ x4 x5 G2, σ = [some (.ref a), some (.ref o), x4, x5] ∧ Adv0 G H G2 H2 ∧ Cl No H G2 H2 o (.lst ((putS tags.length ++ (tags.take i).flatMap tgB).map V.int)))
      ⟨none, none, G1, rfl, A1, co.as (by simp)⟩ (fun i σ H2 _ ⟨_, _, _, _, A2, _⟩ => A2.l ha) ?_ ?_
    · rintro i x σ H2 hxi ⟨x4, x5, G2, rfl, A2, co⟩
      obtain ⟨d, hd, rx⟩ := hx.getV hxi
      rw [List.getElem?_map] at hd
      obtain ⟨⟨nm, kd⟩, hri, rfl⟩ := Option.map_eq_some_iff.mp hd
      obtain ⟨t, ys, rfl, hty, rl⟩ := rx.tuple
      rcases rl with _ | ⟨⟨⟩, _ | ⟨⟨⟩, _ | _⟩⟩
      obtain ⟨k1, k2⟩ := hok _ (List.mem_of_getElem? hri)
      simp only at k1 k2
      have m1 := tB_len (z := nm) (by omega)
      have m2 := tB_len (z := kd) (by omega)
      have hi : i < tags.length := (List.getElem?_eq_some_iff.mp hri).1
      have ll : ((tags.take i).flatMap tgB).length ≤ 44 * (tags.take i).length := flat_len fun t ht => tgB_len (hok t (List.mem_of_mem_take ht))
      rw [List.length_take] at ll
      walk_at "sp"
      refine ⟨G2, nm, A2.gh, rfl, by omega, S_postI A2 fun p1 G1 H1 A1 B1 hp1 => ?_⟩
      have co := co.call B1
      walk_at "sp"
      refine ⟨G1, kd, A1.gh, rfl, by omega, S_postI A1 fun p2 G2 H2 A2 B2 hp2 => ?_⟩
      have co := co.call B2
      refine S_catF A2 (B2.gg _ _ hp1) hp2 (by omega) fun p3 G3 H3 A3 g3 hp3 mm => ?_
      have co := mm _ _ co
      clear mm
      walk_at "sp"
      refine S_ext A3 co (A3.at hp3) (by walk_at "sp om") fun H6 A6 co _ => ?_
      have e : (tags.take (i + 1)).flatMap tgB = (tags.take i).flatMap tgB ++ (tB nm ++ tB kd) := by
        rw [take_snoc hri, List.flatMap_append]
        simp [tgB]
      refine ⟨_, _, G3, rfl, A6, co.as ?_⟩
      rw [e]
      simp
    · rintro σ H2 ⟨x4, x5, G2, rfl, A2, co⟩
      rw [lx, List.take_length] at co
      walk_at "sp"
      exact q _ _ _ (A2.still fo co.h co.g) (rp_ints upd_same)
/-! ### the index and the end -/
abbrev EntT := Nat × Nat × Nat
abbrev EntD (e : EntT) : PyData := .tuple [.int e.1, .int e.2.1, .int e.2.2]
def enB (e : EntT) : List Int := putS e.1 ++ putS e.2.1 ++ putS e.2.2
def eB (es : List EntT) : List Int := putS es.length ++ es.flatMap enB
def EntS (e : EntT) : Prop := e.1 < 2 ^ 40 ∧ e.2.1 < 2 ^ 40 ∧ e.2.2 < 2 ^ 40
theorem enB_len {e : EntT} (h : EntS e) : (enB e).length ≤ 18 := by
  have h1 := putS_le h.1
  have h2 := putS_le h.2.1
  have h3 := putS_le h.2.2
  rw [enB, List.length_append, List.length_append]
  omega
theorem eB_len {es : List EntT} (h : ∀ e ∈ es, EntS e) (hl : es.length ≤ 50) : (eB es).length ≤ 906 := by
  have h1 := flat_len (f := enB) (n := 18) fun t ht => enB_len (h t ht)
  have h2 := putS_le (n := es.length) (by omega)
  rw [eB, List.length_append]
  omega
def sp_index_body : Sp := fun vs H Q _ => ∃ (G : Hp) (r : V) (es : List EntT), Same G H ∧ vs = [r] ∧ Rp G r (.list (es.map EntD)) ∧ es.length ≤ 50 ∧ (∀ t ∈ es, EntS t) ∧ Post G H Q fun v G' => Rp G' v (IntsD (eB es))
theorem sc_index_body : FnScope n_index_body p_index_body (defScope s_index_body) := ⟨rfl, rfl, rfl, by decide +kernel, rfl, by decide +kernel, by decide +kernel⟩
theorem ok_index_body (T : Facts K mg) : FnOk P w K mg base CX0 2 (fA K "index_body") (fD K "index_body") p_index_body sp_index_body := by
  refine T.index_body.F.ok sc_index_body (fun vs H Q E h => ?_) (fun cdv A outer s H vs Q E hr h => ?_)
  · obtain ⟨G, r, es, _, rfl, _⟩ := h
    rfl
  · obtain ⟨G, r, es, sG, rfl, hr0, hl, hok, q⟩ := h
    obtain ⟨a, xs, rfl, ha, hx⟩ := hr0.list
    refine ⟨_, PSs.nox (pss_cons (ps_set (i := 1) sc_index_body.nd rfl (.inl rfl) (pe_call (ok_put_stepsN T) (hr.mono (by decide)) (by rfl) T.put_steps.g T.put_steps.kp T.put_steps.b .nil pass0 (pa_cons (pe_callB call_len_seq rfl T.z_len bi_len (pa_cons (pv 0) pa_nil)) pa_nil)))
  (pss_cons (ps_for PassesOwn.never rfl (pi_list (pv 0)) (pg_tup rfl (pgs_cons (pg_name (i := 2) sc_index_body.nd rfl (.inl rfl)) (pgs_cons (pg_name (i := 3) sc_index_body.nd rfl (.inl rfl)) (pgs_cons (pg_name (i := 4) sc_index_body.nd rfl (.inl rfl)) pgs_nil))))
    (pss_one (ps_expr (pe_bm PySem.F.plainAttrs_list PySem.F.slot_list_extend PySem.F.type_list_extend mt_extend (pv 1) (pa_cons (pe_op op_cat (pe_op op_cat (pe_call (ok_put_steps T) (hr.mono (by decide)) (by rfl) T.put_steps.g T.put_steps.kp T.put_steps.b .nil pass0 (pa_cons (pv 2) pa_nil)) (pe_call (ok_put_steps T) (hr.mono (by decide)) (by rfl) T.put_steps.g T.put_steps.kp T.put_steps.b .nil pass0 (pa_cons (pv 3) pa_nil))) (pe_call (ok_put_steps T) (hr.mono (by decide)) (by rfl) T.put_steps.g T.put_steps.kp T.put_steps.b .nil pass0 (pa_cons (pv 4) pa_nil))) pa_nil)))))
  (pss_one (ps_ret (pv 1))))), ?_⟩
    have A : Adv0 G H G H := .refl sG
    have lx : xs.length = es.length := by rw [hx.len, List.length_map]
    have l3 := putS_le (n := es.length) (by omega)
    walk_at "sp"
    refine ⟨G, es.length, sG, by rw [lx]; rfl, by omega, fun o G1 H1 B1 mo => ?_⟩
    have A1 := A.call B1
    have co : Cl No H G1 H1 o _ := mo.cl
    have fo := mo.f
    walk_at "sp"
    refine S_forL (xs := xs) (fun i σ H2 => ∃ x4 x5 x6 G2, σ = [some (.ref a), some (.ref o), x4, x5, x6] ∧ Adv0 G H G2 H2 ∧ Cl No H G2 H2 o (.lst ((putS es.length ++ (es.take i).flatMap enB).map V.int)))
      ⟨none, none, none, G1, rfl, A1, co.as (by simp)⟩ (fun i σ H2 _ ⟨_, _, _, _, _, A2, _⟩ => A2.l ha) ?_ ?_
    · rintro i x σ H2 hxi ⟨x4, x5, x6, G2, rfl, A2, co⟩
      obtain ⟨d, hd, rx⟩ := hx.getV hxi
      rw [List.getElem?_map] at hd
      obtain ⟨⟨e1, e2, e3⟩, hri, rfl⟩ := Option.map_eq_some_iff.mp hd
      obtain ⟨t, ys, rfl, hty, rl⟩ := rx.tuple
      rcases rl with _ | ⟨⟨⟩, _ | ⟨⟨⟩, _ | ⟨⟨⟩, _ | _⟩⟩⟩
      obtain ⟨k1, k2, k3⟩ := hok _ (List.mem_of_getElem? hri)
      simp only at k1 k2 k3
      have m1 := putS_le k1
      have m2 := putS_le k2
      have m3 := putS_le k3
      have hi : i < es.length := (List.getElem?_eq_some_iff.mp hri).1
      have ll : ((es.take i).flatMap enB).length ≤ 18 * (es.take i).length := flat_len fun t ht => enB_len (hok t (List.mem_of_mem_take ht))
      rw [List.length_take] at ll
      walk_at "sp"
      refine ⟨G2, e1, A2.gh, rfl, k1, S_postI A2 fun p1 G1 H1 A1 B1 hp1 => ?_⟩
      have co := co.call B1
      walk_at "sp"
      refine ⟨G1, e2, A1.gh, rfl, k2, S_postI A1 fun p2 G2 H2 A2 B2 hp2 => ?_⟩
      have co := co.call B2
      walk_at "sp"
      refine S_catF A2 (B2.gg _ _ hp1) hp2 (by omega) fun p3 G3 H3 A3 g3 hp3 mm => ?_
      have co := mm _ _ co
      clear mm
      walk_at "sp"
      refine ⟨G3, e3, A3.gh, rfl, k3, S_postI A3 fun p4 G4 H4 A4 B4 hp4 => ?_⟩
      have co := co.call B4
      refine S_catF A4 (B4.gg _ _ hp3) hp4 (by walk_at "sp om") fun p5 G5 H5 A5 g5 hp5 mm => ?_
      have co := mm _ _ co
      clear mm
      walk_at "sp"
      refine S_ext A5 co (A5.at hp5) (by walk_at "sp om") fun H6 A6 co _ => ?_
      have e : (es.take (i + 1)).flatMap enB = (es.take i).flatMap enB ++ (putS e1 ++ putS e2 ++ putS e3) := by
        rw [take_snoc hri, List.flatMap_append]
        simp [enB]
      refine ⟨_, _, _, G5, rfl, A6, co.as ?_⟩
      rw [e]
      simp
    · rintro σ H2 ⟨x4, x5, x6, G2, rfl, A2, co⟩
      rw [lx, List.take_length] at co
      walk_at "sp"
      exact q _ _ _ (A2.still fo co.h co.g) (rp_ints upd_same)
def sp_end_body : Sp := fun vs H Q _ => ∃ (G : Hp) (c t : Nat), Same G H ∧ vs = [.int c, .int t] ∧ c < 2 ^ 40 ∧ Post G H Q fun v G' => Rp G' v (IntsD (putS c ++ fourB t))
theorem sc_end_body : FnScope n_end_body p_end_body (defScope s_end_body) := ⟨rfl, rfl, rfl, by decide +kernel, rfl, by decide +kernel, by decide +kernel⟩
theorem ok_end_body (T : Facts K mg) : FnOk P w K mg base CX0 2 (fA K "end_body") (fD K "end_body") p_end_body sp_end_body := by
  refine T.end_body.F.ok sc_end_body (fun vs H Q E h => ?_) (fun cdv A outer s H vs Q E hr h => ?_)
  · obtain ⟨G, c, t, _, rfl, _⟩ := h
    rfl
  · obtain ⟨G, c, t, sG, rfl, hc, q⟩ := h
    refine ⟨_, PSs.nox (pss_one (ps_ret (pe_op op_cat (pe_call (ok_put_steps T) (hr.mono (by decide)) (by rfl) T.put_steps.g T.put_steps.kp T.put_steps.b .nil pass0 (pa_cons (pv 0) pa_nil)) (pe_call (ok_four_bytes T) (hr.mono (by decide)) (by rfl) T.four_bytes.g T.four_bytes.kp T.four_bytes.b .nil pass0 (pa_cons (pv 1) pa_nil))))), ?_⟩
    have A : Adv0 G H G H := .refl sG
    have m1 := putS_le hc
    walk_at "sp"
    refine ⟨G, c, sG, rfl, hc, S_postI A fun p1 G1 H1 A1 B1 hp1 => ?_⟩
    walk_at "sp"
    refine ⟨G1, t, A1.gh, rfl, S_postI A1 fun p2 G2 H2 A2 B2 hp2 => ?_⟩
    refine S_catF A2 (B2.gg _ _ hp1) hp2 (by simp [fourB]; omega) fun p3 G3 H3 A3 g3 hp3 mm => ?_
    exact q _ _ _ A3 (rp_ints hp3)
end
/-! w11 -/
section
variable {P : Program} {w : World} {K : PySem.W.Frag} {mg : Str → Option Value} {base : Heap}
/-! ### presentations -/
def WordOk (z : Str) : Prop := 1 ≤ z.length ∧ z.length ≤ 16 ∧ ∀ c ∈ z.cps.toList, 97 ≤ c ∧ c ≤ 122
def LineOk (z : Str) : Prop := ∀ c ∈ z.cps.toList, 32 ≤ c ∧ c ≤ 126 ∧ c ≠ 37
abbrev PostT (G H : Hp) (Q : VK) : Prop := Post G H Q fun v _ => v = .bl true
def sp_is_line : Sp := fun vs H Q _ => ∃ (G : Hp) (z : Str) (m : Nat), Same G H ∧ vs = [.str z, .int m] ∧ LineOk z ∧ z.length ≤ m ∧ m ≤ 1000 ∧ PostT G H Q
theorem sc_is_line : FnScope n_is_line p_is_line (defScope s_is_line) := ⟨rfl, rfl, rfl, by decide +kernel, rfl, by decide +kernel, by decide +kernel⟩
theorem ok_is_line (T : Facts K mg) : FnOk P w K mg base CX0 1 (fA K "is_line") (fD K "is_line") p_is_line sp_is_line := by
  refine T.is_line.F.ok sc_is_line (fun vs H Q E h => ?_) (fun cdv A outer s H vs Q E hr h => ?_)
  · obtain ⟨G, z, m, _, rfl, _⟩ := h
    rfl
  · obtain ⟨G, z, m, sG, rfl, hz, l1, l2, q⟩ := h
    refine ⟨_, PSs.nox (pss_one (ps_ret (pe_and (pe_cmpR op_le (pe_callB call_len_str rfl T.z_len bi_len (pa_cons (pv 0) pa_nil)) (pv 1) (nomark _)) (pe_one (pe_callB (cr_all rfl) rfl T.z_all bi_all (pa_cons (pe_lc (own := [("char", 2)]) rfl sc_is_line.nd (pi_str (pv 0)) (blkOk_by (own := [("char", 2)]) (N := n_is_line) (sc := defScope s_is_line) (by decide +kernel)) (fun _ _ _ _ _ => (pg_name (i := 2) sc_is_line.nd rfl (.inl rfl))) (fun _ _ _ _ _ => pts_nil) (fun _ _ _ _ _ => (pe_and (pe_chain op_le_str op_le_str pe_str (pv 2) pe_str) (pe_one (pe_cmpR op_ne (pe_callB call_ord rfl T.z_ord bi_ord (pa_cons (pv 2) pa_nil)) pe_int (nomark _)))))) pa_nil)))))), ?_⟩
    walk_at "sp"
    refine S_lenS (line_le (by omega)) ?_
    walk_at "sp"
    refine ⟨z, rfl, S_lcS (fun c => .bool true) sG (by omega) (fun i c G1 H1 hc A1 Qy qy => ?_) (fun D G' H' acc A' hD r => ?_)⟩
    · obtain ⟨h1, h2, h3⟩ := hz c (List.mem_of_getElem? hc)
      walk_at "sp"
      refine ⟨rfl, ?_⟩
      walk_at "sp"
      refine S_nt (fun z => ?_) ?_
      · have := (chr_lt (d := 32)).mp z
        omega
      walk_at "sp"
      refine ⟨true, ?_, ?_⟩
      · rw [decide_eq_false]
        · rfl
        · intro z
          have := (chr_lt (c := 126)).mp z
          omega
      walk_at "sp"
      refine S_ord rfl ?_
      walk_at "sp"
      rw [show (((⟨#[c]⟩ : Str).cps.getD 0 0 : Nat) : Int) = (c : Nat) from rfl, show (!decide ((c : Int) = 37)) = true by simp; omega]
      exact qy _ G1 H1 (.refl A1.gh) (.bl _)
    · have e := RpL.bls_inv (ns := z.cps.toList.map fun _ => true) (by rw [List.map_map]; exact r)
      subst e
      walk_at "sp"
      exact S_all (ql A'.gh hD) (all_true _) (q _ G' H' A' rfl)
def sp_is_word : Sp := fun vs H Q _ => ∃ (G : Hp) (z : Str), Same G H ∧ vs = [.str z] ∧ WordOk z ∧ PostT G H Q
theorem sc_is_word : FnScope n_is_word p_is_word (defScope s_is_word) := ⟨rfl, rfl, rfl, by decide +kernel, rfl, by decide +kernel, by decide +kernel⟩
theorem ok_is_word (T : Facts K mg) : FnOk P w K mg base CX0 1 (fA K "is_word") (fD K "is_word") p_is_word sp_is_word := by
  refine T.is_word.F.ok sc_is_word (fun vs H Q E h => ?_) (fun cdv A outer s H vs Q E hr h => ?_)
  · obtain ⟨G, z, _, rfl, _⟩ := h
    rfl
  · obtain ⟨G, z, sG, rfl, ⟨l0, l1, hz⟩, q⟩ := h
    refine ⟨_, PSs.nox (pss_one (ps_ret (pe_and (pe_chain op_le op_le pe_int (pe_callB call_len_str rfl T.z_len bi_len (pa_cons (pv 0) pa_nil)) (pe_gi rfl T.g_MOST_WORD)) (pe_one (pe_callB (cr_all rfl) rfl T.z_all bi_all (pa_cons (pe_lc (own := [("char", 1)]) rfl sc_is_word.nd (pi_str (pv 0)) (blkOk_by (own := [("char", 1)]) (N := n_is_word) (sc := defScope s_is_word) (by decide +kernel)) (fun _ _ _ _ _ => (pg_name (i := 1) sc_is_word.nd rfl (.inl rfl))) (fun _ _ _ _ _ => pts_nil) (fun _ _ _ _ _ => (pe_chain op_le_str op_le_str pe_str (pv 1) pe_str))) pa_nil)))))), ?_⟩
    walk_at "sp"
    refine S_lenS (line_le (by omega)) ?_
    walk_at "sp"
    refine ⟨z, rfl, S_lcS (fun c => .bool true) sG (by omega) (fun i c G1 H1 hc A1 Qy qy => ?_) (fun D G' H' acc A' hD r => ?_)⟩
    · obtain ⟨h1, h2⟩ := hz c (List.mem_of_getElem? hc)
      walk_at "sp"
      refine ⟨rfl, ?_⟩
      walk_at "sp"
      refine S_nt (fun z => ?_) ?_
      · have := (chr_lt (d := 97)).mp z
        omega
      walk_at "sp"
      rw [show (!decide ((("z" : Str)).cps.toList < (⟨#[c]⟩ : Str).cps.toList)) = true by
        rw [decide_eq_false]
        · rfl
        · intro z
          have := (chr_lt (c := 122)).mp z
          omega]
      exact qy _ G1 H1 (.refl A1.gh) (.bl _)
    · have e := RpL.bls_inv (ns := z.cps.toList.map fun _ => true) (by rw [List.map_map]; exact r)
      subst e
      walk_at "sp"
      exact S_all (ql A'.gh hD) (all_true _) (q _ G' H' A' rfl)
def sp_is_row : Sp := fun vs H Q _ => ∃ (G : Hp) (r : V) (bs : List Int) (m : Nat), Same G H ∧ vs = [r, .int m] ∧ Rp G r (IntsD bs) ∧ Bys bs ∧ bs.length ≤ m ∧ m ≤ 10000 ∧ PostT G H Q
theorem sc_is_row : FnScope n_is_row p_is_row (defScope s_is_row) := ⟨rfl, rfl, rfl, by decide +kernel, rfl, by decide +kernel, by decide +kernel⟩
theorem ok_is_row (T : Facts K mg) : FnOk P w K mg base CX0 1 (fA K "is_row") (fD K "is_row") p_is_row sp_is_row := by
  refine T.is_row.F.ok sc_is_row (fun vs H Q E h => ?_) (fun cdv A outer s H vs Q E hr h => ?_)
  · obtain ⟨G, r, bs, m, _, rfl, _⟩ := h
    rfl
  · obtain ⟨G, r, bs, m, sG, rfl, hr0, hb, l1, l2, q⟩ := h
    obtain ⟨a, rfl, ha⟩ := hr0.ints
    refine ⟨_, PSs.nox (pss_one (ps_ret (pe_and (pe_cmpR op_le (pe_callB call_len_seq rfl T.z_len bi_len (pa_cons (pv 0) pa_nil)) (pv 1) (nomark _)) (pe_one (pe_callB (cr_all rfl) rfl T.z_all bi_all (pa_cons (pe_lc (own := [("byte", 2)]) rfl sc_is_row.nd (pi_list (pv 0)) (blkOk_by (own := [("byte", 2)]) (N := n_is_row) (sc := defScope s_is_row) (by decide +kernel)) (fun _ _ _ _ _ => (pg_name (i := 2) sc_is_row.nd rfl (.inl rfl))) (fun _ _ _ _ _ => pts_nil) (fun _ _ _ _ _ => (pe_chain op_le op_le pe_int (pv 2) pe_int))) pa_nil)))))), ?_⟩
    walk_at "sp"
    refine S_lcL (ds := bs.map PyData.int) (fun _ => some (.bool true)) sG ha (.ints bs) (by rw [List.length_map]; omega) (fun i x d G1 H1 hx hd A1 rx Qy Qn qy _ => ?_) (fun D G' H' acc A' hD r => ?_)
    · rw [List.getElem?_map] at hd
      obtain ⟨b, hbi, rfl⟩ := Option.map_eq_some_iff.mp hd
      cases rx
      have := hb b (List.mem_of_getElem? hbi)
      walk_at "sp"
      refine ⟨rfl, ?_⟩
      walk_at "sp"
      rw [show decide (b ≤ 255) = true by simp; omega]
      exact qy _ rfl _ G1 H1 (.refl A1.gh) (.bl _)
    · rw [show (bs.map PyData.int).filterMap (fun _ => some (PyData.bool true)) = ((bs.map fun _ => true).map PyData.bool) from (by rw [show (fun _ : PyData => some (PyData.bool true)) = some ∘ fun _ => PyData.bool true from rfl, List.filterMap_eq_map, List.map_map, List.map_map]; rfl)] at r
      have e := RpL.bls_inv r
      subst e
      walk_at "sp"
      exact S_all (ql A'.gh hD) (all_true _) (q _ G' H' A' rfl)
end
/-! w12 -/
section
variable {P : Program} {w : World} {K : PySem.W.Frag} {mg : Str → Option Value} {base : Heap}
def UOk : Nat → List Un → Prop
  | _, [] => True
  | l, u :: us => l ≤ u.time ∧ u.time < 1099511627776 ∧ 1 ≤ u.span ∧ u.span < 16777216 ∧ u.content.length ≤ 200 ∧ Bys u.content ∧ UOk (u.time + u.span) us
def Hd0 (us : List Un) : Prop := ∀ u, us[0]? = some u → u.leans = false
def sp_are_units : Sp := fun vs H Q _ => ∃ (G : Hp) (r : V) (us : List Un), Same G H ∧ vs = [r] ∧ Rp G r (.list (us.map UnD)) ∧ us.length ≤ 300 ∧ UOk 0 us ∧ Hd0 us ∧ PostT G H Q
theorem sc_are_units : FnScope n_are_units p_are_units (defScope s_are_units) := ⟨rfl, rfl, rfl, by decide +kernel, rfl, by decide +kernel, by decide +kernel⟩
theorem ok_are_units (T : Facts K mg) : FnOk P w K mg base CX0 2 (fA K "are_units") (fD K "are_units") p_are_units sp_are_units := by
  refine T.are_units.F.ok sc_are_units (fun vs H Q E h => ?_) (fun cdv A outer s H vs Q E hr h => ?_)
  · obtain ⟨G, r, us, _, rfl, _⟩ := h
    rfl
  · obtain ⟨G, r, us, sG, rfl, hr0, hl, hu, h0, q⟩ := h
    obtain ⟨a, xs, rfl, ha, hx⟩ := hr0.list
    have lx : xs.length = us.length := by rw [hx.len, List.length_map]
    refine ⟨_, PSs.nox (pss_cons (ps_if (pt_cmpR op_gt (pe_callB call_len_seq rfl T.z_len bi_len (pa_cons (pv 0) pa_nil)) (pe_gi rfl T.g_MOST_UNITS_presentation) (nomark _))
    (pss_one (ps_ret pe_bl))
    pss_nil)
  (pss_cons (ps_set (i := 1) sc_are_units.nd rfl (.inl rfl) pe_int)
  (pss_cons (ps_for PassesOwn.never rfl (pi_range1 rfl T.z_range (pa_cons (pe_callB call_len_seq rfl T.z_len bi_len (pa_cons (pv 0) pa_nil)) pa_nil)) (pg_name (i := 2) sc_are_units.nd rfl (.inl rfl))
    (pss_cons (ps_asg (pe_ix ix_list (pv 0) (pv 2) (fun _ _ => rfl)) (pg_tup rfl (pgs_cons (pg_name (i := 3) sc_are_units.nd rfl (.inl rfl)) (pgs_cons (pg_name (i := 4) sc_are_units.nd rfl (.inl rfl)) (pgs_cons (pg_name (i := 5) sc_are_units.nd rfl (.inl rfl)) (pgs_cons (pg_name (i := 6) sc_are_units.nd rfl (.inl rfl)) pgs_nil))))))
  (pss_cons (ps_if (PW.pt (pw_or (pt_not (pt_chain op_le op_lt (pv 1) (pv 3) (pe_gi rfl T.g_TIME_BOUND))) (pw_or1 (pt_not (pt_chain op_le op_lt pe_int (pv 4) (pe_gi rfl T.g_SPAN_BOUND))))))
    (pss_one (ps_ret pe_bl))
    pss_nil)
  (pss_cons (ps_if (PW.pt (pw_or (pt_not (pt_val (pe_call (ok_is_row T) (hr.mono (by decide)) (by rfl) T.is_row.g T.is_row.kp T.is_row.b .nil pass0 (pa_cons (pv 5) (pa_cons (pe_gi rfl T.g_MOST_CONTENT) pa_nil))))) (pw_or1 (PW.pt (pw_and (pt_val (pv 6)) (pw_and1 (pt_cmpR op_eq (pv 2) pe_int (nomark _))))))))
    (pss_one (ps_ret pe_bl))
    pss_nil)
  (pss_one (ps_set (i := 1) sc_are_units.nd rfl (.inl rfl) (pe_op op_add (pv 3) (pv 4))))))))
  (pss_one (ps_ret pe_bl))))), ?_⟩
    have A : Adv0 G H G H := .refl sG
    walk_at "sp"
    refine S_rn1 (k := us.length) (by rw [lx]) (by omega) (S_forR (fun i σ H1 => ∃ (least : Nat) (x2 x3 x4 x5 x6 : Option V) (G1 : Hp), σ = [some (.ref a), some (.int least), x2, x3, x4, x5, x6] ∧ Adv0 G H G1 H1 ∧ UOk least (us.drop i)) ⟨0, none, none, none, none, none, G, rfl, A, hu⟩ ?_ ?_)
    · rintro i σ H1 hi ⟨least, x2, x3, x4, x5, x6, G1, rfl, A1, ho⟩
      have hui : us[i]? = some (us[i]'hi) := List.getElem?_eq_getElem hi
      generalize us[i]'hi = u at hui
      rw [drop_cons hui] at ho
      obtain ⟨o1, o2, o3, o4, o5, o6, o7⟩ := ho
      obtain ⟨v, hv, rv⟩ := hx.get (d := UnD u) (get_map hui)
      obtain ⟨t, b, rfl, ht, hb⟩ := rv.un
      walk_at "sp"
      refine S_ixL (A1.l ha) (atI_n (Int.zero_add _) hv) ?_
      walk_at "sp"
      refine ⟨G1, .ref b, u.content, 200, A1.gh, rfl, rp_ints (A1.gg _ _ hb), o6, o5, by decide, fun v G2 H2 B2 ev => ?_⟩
      subst ev
      have A2 := A1.call B2
      have hz : i = 0 → u.leans = false := fun z => h0 u (z ▸ hui)
      walk_at "sp"
      have fin : ∃ (least : Nat) (x2 x3 x4 x5 x6 : Option V) (G1 : Hp), [some (V.ref a), some (.int ((u.time : Int) + (u.span : Nat))), some (.int (0 + (i : Nat))), some (.int u.time), some (.int u.span), some (.ref b), some (.bl u.leans)] = [some (.ref a), some (.int least), x2, x3, x4, x5, x6] ∧ Adv0 G H G1 H2 ∧ UOk least (us.drop (i + 1)) :=
        ⟨u.time + u.span, _, _, _, _, _, G2, rfl, A2, o7⟩
      cases hl : u.leans with
      | false =>
        rw [hl] at fin
        walk_at "sp"
        exact fin
      | true =>
        rw [hl] at fin
        have : i ≠ 0 := fun z => by rw [hz z] at hl; cases hl
        walk_at "sp"
        exact fin
    · rintro σ H1 ⟨least, x2, x3, x4, x5, x6, G1, rfl, A1, ho⟩
      walk_at "sp"
      exact q _ _ _ A1 rfl
def sp_step_size : Sp := fun vs H Q _ => ∃ (n : Nat), vs = [.int n] ∧ n < 1000000 ∧ Q (.int (putS n).length) H
theorem sc_step_size : FnScope n_step_size p_step_size (defScope s_step_size) := ⟨rfl, rfl, rfl, by decide +kernel, rfl, by decide +kernel, by decide +kernel⟩
theorem ok_step_size (T : Facts K mg) : FnOk P w K mg base CX0 1 (fA K "step_size") (fD K "step_size") p_step_size sp_step_size := by
  refine T.step_size.F.ok sc_step_size (fun vs H Q E h => ?_) (fun cdv A outer s H vs Q E hr h => ?_)
  · obtain ⟨n, rfl, _⟩ := h
    rfl
  · obtain ⟨n, rfl, hn, q⟩ := h
    refine ⟨_, PSs.nox (pss_cons (ps_set (i := 1) sc_step_size.nd rfl (.inl rfl) pe_int)
  (pss_cons (ps_while PassesOwn.never (pt_cmpR op_ge (pv 0) pe_int (nomark _))
    (pss_cons (ps_set (i := 0) sc_step_size.nd rfl (.inl rfl) (pe_op op_shr (pv 0) pe_int))
  (pss_one (ps_set (i := 1) sc_step_size.nd rfl (.inl rfl) (pe_op op_add (pv 1) pe_int)))))
  (pss_one (ps_ret (pv 1))))), ?_⟩
    walk_at "sp"
    refine ⟨fun m σ H1 => ∃ k : Nat, σ = [some (.int (m : Nat)), some (.int k)] ∧ H = H1 ∧ m < 1000000 ∧ k + (putS m).length = (putS n).length + 1, ⟨n, 1, rfl, rfl, hn, by omega⟩, ?_⟩
    rintro m σ H1 ⟨k, rfl, rfl, hm, e⟩
    by_cases c : m < 128
    · walk_at "sp"
      rw [putS_small c] at e
      have : k = (putS n).length := by
        simp only [List.length_cons, List.length_nil] at e
        omega
      rw [this]
      exact q
    · walk_at "sp"
      refine ⟨fun σ' H' => _, fun σ' H' z => z, ?_⟩
      walk_at "sp"
      refine S_ri (by decide) ?_
      walk_at "sp"
      rw [putS_big c, List.length_cons] at e
      refine ⟨m / 128, by omega, k + 1, ?_, rfl, by omega, by omega⟩
      rw [show ((m : Int) / 2 ^ (7 : Int).toNat) = ((m / 128 : Nat) : Int) by show (m : Int) / 2 ^ 7 = _; omega]
      rfl
theorem Rp.tag {G : Hp} {v : V} {t : TagT} (h : Rp G v (TagD t)) : ∃ a, v = .ref a ∧ G a = some (.tup [.str t.1, .str t.2]) := by
  obtain ⟨a, ys, rfl, ha, rl⟩ := h.tuple
  rcases rl with _ | ⟨⟨⟩, _ | ⟨⟨⟩, _ | _⟩⟩
  exact ⟨a, rfl, ha⟩
structure TagOk (t : TagT) : Prop where
  s : TagS t
  key : WordOk t.1
  value : LineOk t.2
def TSort (tags : List TagT) : Prop := ∀ k s t, tags[k]? = some s → tags[k + 1]? = some t → s.1.cps.toList < t.1.cps.toList
def sp_are_tags : Sp := fun vs H Q _ => ∃ (G : Hp) (r : V) (tags : List TagT), Same G H ∧ vs = [r] ∧ Rp G r (.list (tags.map TagD)) ∧ tags.length ≤ 10 ∧ (∀ t ∈ tags, TagOk t) ∧ TSort tags ∧ PostT G H Q
theorem sc_are_tags : FnScope n_are_tags p_are_tags (defScope s_are_tags) := ⟨rfl, rfl, rfl, by decide +kernel, rfl, by decide +kernel, by decide +kernel⟩
theorem ok_are_tags (T : Facts K mg) : FnOk P w K mg base CX0 2 (fA K "are_tags") (fD K "are_tags") p_are_tags sp_are_tags := by
  refine T.are_tags.F.ok sc_are_tags (fun vs H Q E h => ?_) (fun cdv A outer s H vs Q E hr h => ?_)
  · obtain ⟨G, r, us, _, rfl, _⟩ := h
    rfl
  · obtain ⟨G, r, tags, sG, rfl, hr0, hl, hok, hs, q⟩ := h
    obtain ⟨a, xs, rfl, ha, hx⟩ := hr0.list
    have lx : xs.length = tags.length := by rw [hx.len, List.length_map]
    refine ⟨_, PSs.nox (pss_cons (ps_set (i := 1) sc_are_tags.nd rfl (.inl rfl) (pe_call (ok_step_size T) (hr.mono (by decide)) (by rfl) T.step_size.g T.step_size.kp T.step_size.b .nil pass0 (pa_cons (pe_callB call_len_seq rfl T.z_len bi_len (pa_cons (pv 0) pa_nil)) pa_nil)))
  (pss_cons (ps_for PassesOwn.never rfl (pi_range1 rfl T.z_range (pa_cons (pe_callB call_len_seq rfl T.z_len bi_len (pa_cons (pv 0) pa_nil)) pa_nil)) (pg_name (i := 2) sc_are_tags.nd rfl (.inl rfl))
    (pss_cons (ps_asg (pe_ix ix_list (pv 0) (pv 2) (fun _ _ => rfl)) (pg_tup rfl (pgs_cons (pg_name (i := 3) sc_are_tags.nd rfl (.inl rfl)) (pgs_cons (pg_name (i := 4) sc_are_tags.nd rfl (.inl rfl)) pgs_nil))))
  (pss_cons (ps_if (PW.pt (pw_or (pt_not (pt_val (pe_call (ok_is_word T) (hr.mono (by decide)) (by rfl) T.is_word.g T.is_word.kp T.is_word.b .nil pass0 (pa_cons (pv 3) pa_nil)))) (pw_or (pt_not (pt_val (pe_call (ok_is_line T) (hr.mono (by decide)) (by rfl) T.is_line.g T.is_line.kp T.is_line.b .nil pass0 (pa_cons (pv 4) (pa_cons (pe_gi rfl T.g_MOST_VALUE) pa_nil))))) (pw_or1 (PW.pt (pw_and (pt_cmpR op_gt (pv 2) pe_int (nomark _)) (pw_and1 (pt_cmpR op_le_str (pv 3) (pe_ix ix_tup (pe_ix ix_list (pv 0) (pe_op op_sub (pv 2) pe_int) (fun _ _ => rfl)) pe_int (fun _ _ => rfl)) (nomark _)))))))))
    (pss_one (ps_ret pe_bl))
    pss_nil)
  (pss_one (ps_set (i := 1) sc_are_tags.nd rfl (.inl rfl) (pe_op op_add (pe_op op_add (pe_op op_add (pe_op op_add (pv 1) (pe_call (ok_step_size T) (hr.mono (by decide)) (by rfl) T.step_size.g T.step_size.kp T.step_size.b .nil pass0 (pa_cons (pe_callB call_len_str rfl T.z_len bi_len (pa_cons (pv 3) pa_nil)) pa_nil))) (pe_callB call_len_str rfl T.z_len bi_len (pa_cons (pv 3) pa_nil))) (pe_call (ok_step_size T) (hr.mono (by decide)) (by rfl) T.step_size.g T.step_size.kp T.step_size.b .nil pass0 (pa_cons (pe_callB call_len_str rfl T.z_len bi_len (pa_cons (pv 4) pa_nil)) pa_nil))) (pe_callB call_len_str rfl T.z_len bi_len (pa_cons (pv 4) pa_nil))))))))
  (pss_one (ps_ret (pe_cmpR op_le (pv 1) (pe_gi rfl T.g_MOST_BODY_presentation) (nomark _)))))), ?_⟩
    have A : Adv0 G H G H := .refl sG
    walk_at "sp"
    refine ⟨tags.length, by rw [lx]; rfl, by omega, ?_⟩
    have l3 := putS_le (n := tags.length) (by omega)
    walk_at "sp"
    refine S_rn1 (k := tags.length) (by rw [lx]) (by omega) (S_forR (fun i σ H1 => ∃ (size : Nat) (x2 x3 x4 : Option V) (G1 : Hp), σ = [some (.ref a), some (.int size), x2, x3, x4] ∧ Adv0 G H G1 H1 ∧ size ≤ 6 + 44 * i) ⟨_, none, none, none, G, rfl, A, by omega⟩ ?_ ?_)
    · rintro i σ H1 hi ⟨size, x2, x3, x4, G1, rfl, A1, ls⟩
      have hui : tags[i]? = some (tags[i]'hi) := List.getElem?_eq_getElem hi
      have okt := hok _ (List.getElem_mem hi)
      generalize tags[i]'hi = u at hui okt
      obtain ⟨⟨k1, k2⟩, k3, k4⟩ := okt
      obtain ⟨v, hv, rv⟩ := hx.get (d := TagD u) (get_map hui)
      obtain ⟨t, rfl, hty⟩ := rv.tag
      generalize hkey : u.1 = key at *
      generalize hvalue : u.2 = value at *
      walk_at "sp"
      refine S_ixL (A1.l ha) (atI_n (Int.zero_add _) hv) ?_
      walk_at "sp"
      refine ⟨G1, key, A1.gh, rfl, k3, fun v G2 H2 B2 ev => ?_⟩
      subst ev
      have A2 := A1.call B2
      walk_at "sp"
      refine ⟨G2, value, 100, A2.gh, rfl, k4, by omega, by decide, fun v G3 H3 B3 ev => ?_⟩
      subst ev
      have A3 := A2.call B3
      have m1 := putS_le (n := key.length) (by omega)
      have m2 := putS_le (n := value.length) (by omega)
      have fin : ∃ (size' : Nat) (x2 x3 x4 : Option V) (G1 : Hp), [some (.ref a), some (.int ((size : Int) + ((putS key.length).length : Nat) + (key.length : Nat) + ((putS value.length).length : Nat) + (value.length : Nat))), some (.int (0 + (i : Nat))), some (.str key), some (.str value)] = [some (.ref a), some (.int size'), x2, x3, x4] ∧ Adv0 G H G1 H3 ∧ size' ≤ 6 + 44 * (i + 1) :=
        ⟨size + (putS key.length).length + key.length + (putS value.length).length + value.length, _, _, _, G3, rfl, A3, by omega⟩
      by_cases c : i = 0
      · walk_at "sp"
        refine S_lenS (line_le (by omega)) ?_
        walk_at "sp"
        refine ⟨key.length, rfl, by omega, ?_⟩
        walk_at "sp"
        refine S_lenS (line_le (by omega)) ?_
        walk_at "sp"
        refine S_lenS (line_le (by omega)) ?_
        walk_at "sp"
        refine ⟨value.length, rfl, by omega, ?_⟩
        walk_at "sp"
        refine S_lenS (line_le (by omega)) ?_
        walk_at "sp"
        exact fin
      · walk_at "sp"
        obtain ⟨j, rfl⟩ : ∃ j, i = j + 1 := ⟨i - 1, by omega⟩
        have huj : tags[j]? = some (tags[j]'(by omega)) := List.getElem?_eq_getElem (by omega)
        generalize tags[j]'(by omega) = u at huj
        have hlt := hs j u _ huj hui
        rw [hkey] at hlt
        obtain ⟨v0, hv0, rv0⟩ := hx.get (get_map huj)
        obtain ⟨t0, rfl, hty0⟩ := rv0.tag
        refine S_ixL (A3.l ha) (atI_n (j := j) (by omega) hv0) ?_
        walk_at "sp"
        refine S_lenS (line_le (by omega)) ?_
        walk_at "sp"
        refine ⟨key.length, rfl, by omega, ?_⟩
        walk_at "sp"
        refine S_lenS (line_le (by omega)) ?_
        walk_at "sp"
        refine S_lenS (line_le (by omega)) ?_
        walk_at "sp"
        refine ⟨value.length, rfl, by omega, ?_⟩
        walk_at "sp"
        refine S_lenS (line_le (by omega)) ?_
        walk_at "sp"
        exact fin
    · rintro σ H1 ⟨size, x2, x3, x4, G1, rfl, A1, ls⟩
      walk_at "sp"
      rw [show decide ((size : Int) ≤ 1024) = true by simp; omega]
      exact q _ _ _ A1 rfl
structure Tk where
  name : Str
  kind : Str
  units : List Un
abbrev TkD (t : Tk) : PyData := .tuple [.str t.name, .str t.kind, .list (t.units.map UnD)]
structure Pr where
  ticks : Nat
  skip : Nat
  tracks : List Tk
  tags : List TagT
abbrev PrD (p : Pr) : PyData := .tuple [.int p.ticks, .int p.skip, .list (p.tracks.map TkD), .list (p.tags.map TagD)]
theorem Rp.tk {G : Hp} {v : V} {t : Tk} (h : Rp G v (TkD t)) : ∃ a u, v = .ref a ∧ G a = some (.tup [.str t.name, .str t.kind, u]) ∧ Rp G u (.list (t.units.map UnD)) := by
  obtain ⟨a, ys, rfl, ha, rl⟩ := h.tuple
  rcases rl with _ | ⟨⟨⟩, _ | ⟨⟨⟩, _ | ⟨r, _ | _⟩⟩⟩
  exact ⟨a, _, rfl, ha, r⟩
theorem Rp.pr {G : Hp} {v : V} {p : Pr} (h : Rp G v (PrD p)) : ∃ a t g, v = .ref a ∧ G a = some (.tup [.int p.ticks, .int p.skip, t, g]) ∧ Rp G t (.list (p.tracks.map TkD)) ∧ Rp G g (.list (p.tags.map TagD)) := by
  obtain ⟨a, ys, rfl, ha, rl⟩ := h.tuple
  rcases rl with _ | ⟨⟨⟩, _ | ⟨⟨⟩, _ | ⟨r, _ | ⟨r2, _ | _⟩⟩⟩⟩
  exact ⟨a, _, _, rfl, ha, r, r2⟩
structure TkOk (t : Tk) : Prop where
  name : LineOk t.name
  nameL : t.name.length ≤ 32
  kind : WordOk t.kind
  len : t.units.length ≤ 300
  units : UOk 0 t.units
  head : Hd0 t.units
structure PrOk (p : Pr) : Prop where
  ticks : 1 ≤ p.ticks ∧ p.ticks ≤ 90000
  skip : p.skip < 1099511627776
  len : p.tracks.length ≤ 15
  tracks : ∀ t ∈ p.tracks, TkOk t
  tagsL : p.tags.length ≤ 10
  tags : ∀ t ∈ p.tags, TagOk t
  sort : TSort p.tags
def sp_is_presentation : Sp := fun vs H Q _ => ∃ (G : Hp) (r : V) (p : Pr), Same G H ∧ vs = [r] ∧ Rp G r (PrD p) ∧ PrOk p ∧ PostT G H Q
theorem sc_is_presentation : FnScope n_is_presentation p_is_presentation (defScope s_is_presentation) := ⟨rfl, rfl, rfl, by decide +kernel, rfl, by decide +kernel, by decide +kernel⟩
theorem ok_is_presentation (T : Facts K mg) : FnOk P w K mg base CX0 3 (fA K "is_presentation") (fD K "is_presentation") p_is_presentation sp_is_presentation := by
  refine T.is_presentation.F.ok sc_is_presentation (fun vs H Q E h => ?_) (fun cdv A outer s H vs Q E hr h => ?_)
  · obtain ⟨G, r, us, _, rfl, _⟩ := h
    rfl
  · obtain ⟨G, r, p, sG, rfl, hr0, ok, q⟩ := h
    obtain ⟨a, t, g, rfl, ha, ht, hg⟩ := hr0.pr
    obtain ⟨t, xs, rfl, ht, hx⟩ := ht.list
    have lx : xs.length = p.tracks.length := by rw [hx.len, List.length_map]
    obtain ⟨o1, o2⟩ := ok.ticks
    have o3 := ok.skip
    have o4 := ok.len
    refine ⟨_, PSs.nox (pss_cons (ps_asg (pv 0) (pg_tup rfl (pgs_cons (pg_name (i := 1) sc_is_presentation.nd rfl (.inl rfl)) (pgs_cons (pg_name (i := 2) sc_is_presentation.nd rfl (.inl rfl)) (pgs_cons (pg_name (i := 3) sc_is_presentation.nd rfl (.inl rfl)) (pgs_cons (pg_name (i := 4) sc_is_presentation.nd rfl (.inl rfl)) pgs_nil))))))
  (pss_cons (ps_if (PW.pt (pw_or (pt_not (pt_chain op_le op_le pe_int (pv 1) (pe_gi rfl T.g_MOST_TICKS))) (pw_or (pt_not (pt_chain op_le op_lt pe_int (pv 2) (pe_gi rfl T.g_TIME_BOUND))) (pw_or1 (pt_cmpR op_gt (pe_callB call_len_seq rfl T.z_len bi_len (pa_cons (pv 3) pa_nil)) (pe_gi rfl T.g_MOST_TRACKS) (nomark _))))))
    (pss_one (ps_ret pe_bl))
    pss_nil)
  (pss_cons (ps_for PassesOwn.never rfl (pi_list (pv 3)) (pg_tup rfl (pgs_cons (pg_name (i := 5) sc_is_presentation.nd rfl (.inl rfl)) (pgs_cons (pg_name (i := 6) sc_is_presentation.nd rfl (.inl rfl)) (pgs_cons (pg_name (i := 7) sc_is_presentation.nd rfl (.inl rfl)) pgs_nil))))
    (pss_one (ps_if (PW.pt (pw_or (pt_not (pt_val (pe_call (ok_is_line T) (hr.mono (by decide)) (by rfl) T.is_line.g T.is_line.kp T.is_line.b .nil pass0 (pa_cons (pv 5) (pa_cons (pe_gi rfl T.g_MOST_NAME) pa_nil))))) (pw_or (pt_not (pt_val (pe_call (ok_is_word T) (hr.mono (by decide)) (by rfl) T.is_word.g T.is_word.kp T.is_word.b .nil pass0 (pa_cons (pv 6) pa_nil)))) (pw_or1 (pt_not (pt_val (pe_call (ok_are_units T) (hr.mono (by decide)) (by rfl) T.are_units.g T.are_units.kp T.are_units.b .nil pass0 (pa_cons (pv 7) pa_nil))))))))
    (pss_one (ps_ret pe_bl))
    pss_nil)))
  (pss_one (ps_ret (pe_call (ok_are_tags T) (hr.mono (by decide)) (by rfl) T.are_tags.g T.are_tags.kp T.are_tags.b .nil pass0 (pa_cons (pv 4) pa_nil))))))), ?_⟩
    have A : Adv0 G H G H := .refl sG
    walk_at "sp"
    refine S_forL (xs := xs) (fun i σ H1 => ∃ (x5 x6 x7 : Option V) (G1 : Hp), σ = [some (.ref a), some (.int p.ticks), some (.int p.skip), some (.ref t), some g, x5, x6, x7] ∧ Adv0 G H G1 H1) ⟨none, none, none, G, rfl, A⟩ (fun i σ H1 _ ⟨_, _, _, _, _, A1⟩ => A1.l ht) ?_ ?_
    · rintro i x σ H1 hxi ⟨x5, x6, x7, G1, rfl, A1⟩
      obtain ⟨d, hd, rx⟩ := hx.getV hxi
      obtain ⟨k, hk, rfl⟩ := get_map_inv hd
      obtain ⟨b, u, rfl, hb, hu⟩ := rx.tk
      have okk := ok.tracks k (List.mem_of_getElem? hk)
      walk_at "sp"
      refine ⟨G1, k.name, 32, A1.gh, rfl, okk.name, okk.nameL, by decide, fun v G2 H2 B2 ev => ?_⟩
      subst ev
      have A2 := A1.call B2
      walk_at "sp"
      refine ⟨G2, k.kind, A2.gh, rfl, okk.kind, fun v G3 H3 B3 ev => ?_⟩
      subst ev
      have A3 := A2.call B3
      walk_at "sp"
      refine ⟨G3, u, k.units, A3.gh, rfl, hu.mono A3.gg, okk.len, okk.units, okk.head, fun v G4 H4 B4 ev => ?_⟩
      subst ev
      have A4 := A3.call B4
      walk_at "sp"
      exact ⟨_, _, _, G4, rfl, A4⟩
    · rintro σ H1 ⟨x5, x6, x7, G1, rfl, A1⟩
      walk_at "sp"
      exact ⟨G1, g, p.tags, A1.gh, rfl, hg.mono A1.gg, ok.tagsL, ok.tags, ok.sort, fun v G2 H2 B2 ev => q v _ _ (A1.call B2) ev⟩
end
/-! w13 -/
section
variable {P : Program} {w : World} {K : PySem.W.Frag} {mg : Str → Option Value} {base : Heap}
/-! ### BodyReader -/
theorem chars_at : ∀ c : Nat, c < 127 → 32 ≤ c → c ≠ 37 → (" !\"#$&'()*+,-./0123456789:;<=>?@ABCDEFGHIJKLMNOPQRSTUVWXYZ[\\]^_`abcdefghijklmnopqrstuvwxyz{|}~" : Str).cps.toList[c - 32 - (if 37 < c then 1 else 0)]? = some c := by decide +kernel
theorem chars_len : (" !\"#$&'()*+,-./0123456789:;<=>?@ABCDEFGHIJKLMNOPQRSTUVWXYZ[\\]^_`abcdefghijklmnopqrstuvwxyz{|}~" : Str).length = 94 := by decide +kernel
def sp_char_of : Sp := fun vs H Q _ => ∃ c : Nat, vs = [.int c] ∧ 32 ≤ c ∧ c ≤ 126 ∧ c ≠ 37 ∧ Q (.str ⟨#[c]⟩) H
theorem sc_char_of : FnScope n_char_of p_char_of (defScope s_char_of) := ⟨rfl, rfl, rfl, by decide +kernel, rfl, by decide +kernel, by decide +kernel⟩
theorem ok_char_of (T : Facts K mg) : FnOk P w K mg base CX0 1 (fA K "char_of") (fD K "char_of") p_char_of sp_char_of := by
  refine T.char_of.F.ok sc_char_of (fun vs H Q E h => ?_) (fun cdv A outer s H vs Q E hr h => ?_)
  · obtain ⟨c, rfl, _⟩ := h
    rfl
  · obtain ⟨c, rfl, h1, h2, h3, q⟩ := h
    refine ⟨_, PSs.nox (pss_cons (ps_if (PW.pt (pw_or (pt_cmpR op_lt (pv 0) pe_int (nomark _)) (pw_or (pt_cmpR op_gt (pv 0) pe_int (nomark _)) (pw_or1 (pt_cmpR op_eq (pv 0) pe_int (nomark _))))))
    pss_never
    pss_nil)
  (pss_one (ps_ret (pe_ix ix_str (pe_gs rfl T.g_CHARS) (pe_op op_sub (pe_op op_sub (pv 0) pe_int) (pe_callTy call_int1 rfl T.z_int bi_int (pa_cons (pe_cmpR op_gt (pv 0) pe_int (nomark _)) pa_nil))) (fun _ _ => rfl))))), ?_⟩
    walk_at "sp"
    refine ⟨_, _, c, rfl, rfl, line_le (by rw [chars_len]; omega), atI_n ?_ (chars_at c (by omega) h1 h3), q⟩
    by_cases g : 37 < c
    · rw [if_pos g, show decide ((37 : Int) < (c : Int)) = true by simp; omega, if_pos rfl]
      omega
    · rw [if_neg g, show decide ((37 : Int) < (c : Int)) = false by simp; omega, if_neg (by decide)]
      omega
def sp_BodyReader_init (K : PySem.W.Frag) : Sp := fun vs H Q _ => ∃ (G : Hp) (o dx : Addr) (b : V), Same G H ∧ vs = [.ref o, b] ∧ G o = none ∧ H o = some (.ins (cA K "BodyReader") dx []) ∧ (∀ H', Adv (· = o) G H G H' → H' o = some (.ins (cA K "BodyReader") dx (fs_BodyReader b (.int 0))) → Q .non H')
theorem sc_BodyReader_init : FnScope n_BodyReader_init p_BodyReader_init (defScope s_BodyReader_init) := ⟨rfl, rfl, rfl, by decide +kernel, rfl, by decide +kernel, by decide +kernel⟩
theorem ok_BodyReader_init (T : Facts K mg) : FnOk P w K mg base CX0 1 (mA K "BodyReader" "__init__") (mD K "BodyReader" "__init__") p_BodyReader_init (sp_BodyReader_init K) := by
  refine T.BodyReader_init.F.ok sc_BodyReader_init (fun vs H Q E h => ?_) (fun cdv A outer s H vs Q E hr h => ?_)
  · obtain ⟨G, o, dx, b, _, rfl, _⟩ := h
    rfl
  · obtain ⟨G, o, dx, b, sG, rfl, go, ho, q⟩ := h
    refine ⟨_, PSs.nox (pss_cons (ps_fld (pv 0) (pv 1) rfl)
  (pss_one (ps_fld (pv 0) pe_int rfl))), ?_⟩
    have A : Adv (· = o) G H G H := .refl sG
    have co : Cl (· = o) H G H o _ := ⟨.inl rfl, go, ho⟩
    walk_at "sp"
    refine S_sf A co T.cl_BodyReader T.na_BodyReader_body (Nat.le_of_ble_eq_true rfl) rfl fun H1 A1 c1 _ => ?_
    walk_at "sp"
    refine S_sf A1 c1 T.cl_BodyReader T.na_BodyReader_at (Nat.le_of_ble_eq_true rfl) rfl fun H2 A2 c2 _ => ?_
    walk_at "sp"
    exact q _ A2 c2.h
abbrev brO (K : PySem.W.Frag) (b dx : Addr) (k : Nat) : HO := .ins (cA K "BodyReader") dx (fs_BodyReader (.ref b) (.int k))
/-- what a method of a reader promises -/
def PostB (K : PySem.W.Frag) (o b dx : Addr) (k : Nat) (G H : Hp) (Q : VK) (P : V → Hp → Prop) : Prop := ∀ v G' H', Adv (· = o) G H G' H' → H' o = some (brO K b dx k) → P v G' → Q v H'
def sp_BodyReader_number (K : PySem.W.Frag) : Sp := fun vs H Q _ => ∃ (G : Hp) (o b dx : Addr) (pre post : List Int) (n lo hi : Nat), Same G H ∧ vs = [.ref o, .int lo, .int hi] ∧ G o = none ∧ H o = some (brO K b dx pre.length) ∧ G b = some (.lst ((pre ++ putS n ++ post).map V.int)) ∧ n < 2 ^ 40 ∧ lo ≤ n ∧ n ≤ hi ∧ pre.length ≤ 100000 ∧
  PostB K o b dx (pre.length + (putS n).length) G H Q fun v _ => v = .int n
theorem sc_BodyReader_number : FnScope n_BodyReader_number p_BodyReader_number (defScope s_BodyReader_number) := ⟨rfl, rfl, rfl, by decide +kernel, rfl, by decide +kernel, by decide +kernel⟩
theorem ok_BodyReader_number (T : Facts K mg) : FnOk P w K mg base CX0 2 (mA K "BodyReader" "number") (mD K "BodyReader" "number") p_BodyReader_number (sp_BodyReader_number K) := by
  refine T.BodyReader_number.F.ok sc_BodyReader_number (fun vs H Q E h => ?_) (fun cdv A outer s H vs Q E hr h => ?_)
  · obtain ⟨G, o, b, dx, pre, post, n, lo, hi, _, rfl, _⟩ := h
    rfl
  · obtain ⟨G, o, b, dx, pre, post, n, lo, hi, sG, rfl, go, ho, hb, hn, h1, h2, h3, q⟩ := h
    refine ⟨_, PSs.nox (pss_cons (ps_try_thru0 (pss_one (ps_asg (pe_call (ok_get_steps T) (hr.mono (by decide)) (by rfl) T.get_steps.g T.get_steps.kp T.get_steps.b .nil pass0 (pa_cons (pe_fld (pv 0) rfl) (pa_cons (pe_fld (pv 0) rfl) pa_nil))) (pg_tup rfl (pgs_cons (pg_name (i := 3) sc_BodyReader_number.nd rfl (.inl rfl)) (pgs_cons (pg_name (i := 4) sc_BodyReader_number.nd rfl (.inl rfl)) pgs_nil))))))
  (pss_cons (ps_if (pt_not (pt_chain op_le op_le (pv 1) (pv 3) (pv 2)))
    pss_never
    pss_nil)
  (pss_cons (ps_fld (pv 0) (pv 4) rfl)
  (pss_one (ps_ret (pv 3)))))), ?_⟩
    have A : Adv (· = o) G H G H := .refl sG
    have co : Cl (· = o) H G H o _ := ⟨.inl rfl, go, ho⟩
    walk_at "sp"
    refine ⟨G, .ref b, pre, post, n, sG, rfl, rp_ints hb, hn, h3, fun v G1 H1 B1 rv => ?_⟩
    obtain ⟨a, vs, rfl, ha, rl⟩ := rv.tuple
    rcases rl with _ | ⟨⟨⟩, _ | ⟨⟨⟩, _ | _⟩⟩
    have A1 := A.call B1
    have c1 := co.call B1
    walk_at "sp"
    refine sf_BodyReader_at T A1 c1 fun H2 A2 c2 _ => ?_
    walk_at "sp"
    exact q _ _ _ A2 c2.h rfl
def sp_BodyReader_take (K : PySem.W.Frag) : Sp := fun vs H Q _ => ∃ (G : Hp) (o b dx : Addr) (pre xs post : List Int) (n : Nat), Same G H ∧ vs = [.ref o, .int n] ∧ G o = none ∧ H o = some (brO K b dx pre.length) ∧ G b = some (.lst ((pre ++ xs ++ post).map V.int)) ∧ n = xs.length ∧
  PostB K o b dx (pre.length + xs.length) G H Q fun v G' => Rp G' v (IntsD xs)
theorem sc_BodyReader_take : FnScope n_BodyReader_take p_BodyReader_take (defScope s_BodyReader_take) := ⟨rfl, rfl, rfl, by decide +kernel, rfl, by decide +kernel, by decide +kernel⟩
theorem ok_BodyReader_take (T : Facts K mg) : FnOk P w K mg base CX0 1 (mA K "BodyReader" "take") (mD K "BodyReader" "take") p_BodyReader_take (sp_BodyReader_take K) := by
  refine T.BodyReader_take.F.ok sc_BodyReader_take (fun vs H Q E h => ?_) (fun cdv A outer s H vs Q E hr h => ?_)
  · obtain ⟨G, o, b, dx, pre, xs, post, n, _, rfl, _⟩ := h
    rfl
  · obtain ⟨G, o, b, dx, pre, xs, post, n, sG, rfl, go, ho, hb, rfl, q⟩ := h
    refine ⟨_, PSs.nox (pss_cons (ps_if (pt_cmpR op_gt (pe_op op_add (pe_fld (pv 0) rfl) (pv 1)) (pe_callB call_len_seq rfl T.z_len bi_len (pa_cons (pe_fld (pv 0) rfl) pa_nil)) (nomark _))
    pss_never
    pss_nil)
  (pss_cons (ps_fld (pv 0) (pe_op op_add (pe_fld (pv 0) rfl) (pv 1)) rfl)
  (pss_one (ps_ret (pe_slice sl_list (pe_fld (pv 0) rfl) (po_some (pe_op op_sub (pe_fld (pv 0) rfl) (pv 1))) (po_some (pe_fld (pv 0) rfl))))))), ?_⟩
    have A : Adv (· = o) G H G H := .refl sG
    have co : Cl (· = o) H G H o _ := ⟨.inl rfl, go, ho⟩
    walk_at "sp"
    refine sf_BodyReader_at T A co fun H2 A2 c2 _ => ?_
    rw [show ((pre.length : Nat) : Int) + (xs.length : Nat) = ((pre.length + xs.length : Nat) : Int) by omega] at c2
    walk_at "sp"
    refine S_slL (A2.l hb) (S_newF A2 fun p G3 H3 A3 g3 hp mm => ?_)
    have c3 := mm _ _ c2
    refine q _ _ _ A3 c3.h (rp_ints ?_)
    rw [hp, show ((pre.length + xs.length : Nat) : Int) - (xs.length : Nat) = (pre.length : Nat) by omega, cut_nat (by omega) (by walk_at "sp om"), ← List.map_drop, ← List.map_take, List.append_assoc, List.drop_left, Nat.add_sub_cancel_left, List.take_left]
theorem join_one : ∀ cs : List Nat, Str.join ("" : Str) (cs.map fun c => (⟨#[c]⟩ : Str)) = ⟨cs.toArray⟩
  | [] => rfl
  | [c] => rfl
  | c :: d :: cs => by
    have ih := join_one (d :: cs)
    show (⟨#[c]⟩ : Str) ++ ("" : Str) ++ Str.join ("" : Str) ((d :: cs).map fun c => (⟨#[c]⟩ : Str)) = _
    rw [ih, show ("" : Str) = ⟨#[]⟩ by decide +kernel]
    show (⟨#[c] ++ #[] ++ (d :: cs).toArray⟩ : Str) = _
    congr 1
    simp
theorem join_str (z : Str) : Txt.join ("" : Str) (z.cps.toList.map fun c => (⟨#[c]⟩ : Str)) = z := by
  show Builtin.Str.glued ("" : Str) _ = z
  rw [StrLaws.glued_eq_join, join_one]
def sp_BodyReader_text (K : PySem.W.Frag) : Sp := fun vs H Q _ => ∃ (G : Hp) (o b dx : Addr) (pre post : List Int) (z : Str) (hi : Nat), Same G H ∧ vs = [.ref o, .int hi] ∧ G o = none ∧ H o = some (brO K b dx pre.length) ∧ G b = some (.lst ((pre ++ tB z ++ post).map V.int)) ∧ z.length ≤ hi ∧ hi ≤ 1000 ∧ LineOk z ∧ pre.length ≤ 100000 ∧
  PostB K o b dx (pre.length + (tB z).length) G H Q fun v _ => v = .str z
theorem sc_BodyReader_text : FnScope n_BodyReader_text p_BodyReader_text (defScope s_BodyReader_text) := ⟨rfl, rfl, rfl, by decide +kernel, rfl, by decide +kernel, by decide +kernel⟩
theorem ok_BodyReader_text (T : Facts K mg) : FnOk P w K mg base CX0 3 (mA K "BodyReader" "text") (mD K "BodyReader" "text") p_BodyReader_text (sp_BodyReader_text K) := by
  refine T.BodyReader_text.F.ok sc_BodyReader_text (fun vs H Q E h => ?_) (fun cdv A outer s H vs Q E hr h => ?_)
  · obtain ⟨G, o, b, dx, pre, post, z, hi, _, rfl, _⟩ := h
    rfl
  · obtain ⟨G, o, b, dx, pre, post, z, hi, sG, rfl, go, ho, hb, h1, h2, h3, h4, q⟩ := h
    refine ⟨_, PSs.nox (pss_one (ps_ret (pe_join pe_str (pe_lc (own := [("byte", 2)]) rfl sc_BodyReader_text.nd (pi_list (pe_meth (pv 0) T.cl_BodyReader T.m_BodyReader_take (ok_BodyReader_take T) (hr.mono (by decide)) T.BodyReader_take.b .nil pass0 (pa_cons (pe_meth (pv 0) T.cl_BodyReader T.m_BodyReader_number (ok_BodyReader_number T) (hr.mono (by decide)) T.BodyReader_number.b .nil pass0 (pa_cons pe_int (pa_cons (pv 1) pa_nil))) pa_nil))) (blkOk_by (own := [("byte", 2)]) (N := n_BodyReader_text) (sc := defScope s_BodyReader_text) (by decide +kernel)) (fun _ _ _ _ _ => (pg_name (i := 2) sc_BodyReader_text.nd rfl (.inl rfl))) (fun _ _ _ _ _ => pts_nil) (fun _ _ _ _ _ => (pe_call (ok_char_of T) (hr.mono (by decide)) (by rfl) T.char_of.g T.char_of.kp T.char_of.b .nil pass0 (pa_cons (pv 2) pa_nil))))))), ?_⟩
    have A : Adv (· = o) G H G H := .refl sG
    have co : Cl (· = o) H G H o _ := ⟨.inl rfl, go, ho⟩
    refine ⟨⟨_, rfl⟩, ?_⟩
    walk_at "sp"
    have l5 := putS_le (n := z.length) (by omega)
    have e1 : pre ++ tB z ++ post = pre ++ putS z.length ++ (sB z ++ post) := by simp [tB]
    have e2 : pre ++ tB z ++ post = (pre ++ putS z.length) ++ sB z ++ post := by simp [tB]
    refine ⟨G, o, b, dx, pre, sB z ++ post, z.length, 0, hi, sG, rfl, go, ho, by rw [hb, e1], by omega, by omega, h1, h4, fun v G1 H1 B1 ho1 ev => ?_⟩
    subst ev
    have A1 := co.trans A B1
    have c1 := co.meth B1 ho1
    walk_at "sp"
    refine ⟨G1, o, b, dx, pre ++ putS z.length, sB z, post, z.length, A1.gh, rfl, c1.g, by rw [List.length_append]; exact c1.h, by rw [A1.gg _ _ hb, e2], (sB_len z).symm, fun v G2 H2 B2 ho2 rv => ?_⟩
    have A2 := c1.trans A1 B2
    have c2 := c1.meth B2 ho2
    obtain ⟨p, rfl, hp⟩ := rv.ints
    walk_at "sp"
    refine S_lcL (ds := (sB z).map PyData.int) (fun d => match d with | .int i => some (.str ⟨#[i.toNat]⟩) | _ => none) A2.gh hp (.ints _) (by rw [List.length_map, sB_len]; omega) (fun i x d G3 H3 hx hd A3 rx Qy Qn qy _ => ?_) (fun D G3 H3 acc A3 hD r => ?_)
    · obtain ⟨ic, hic, rfl⟩ := get_map_inv hd
      obtain ⟨c, hc, rfl⟩ := get_map_inv hic
      cases rx
      obtain ⟨g1, g2, g3⟩ := h3 c (List.mem_of_getElem? hc)
      walk_at "sp"
      refine ⟨rfl, ?_⟩
      walk_at "sp"
      exact ⟨c, rfl, g1, g2, g3, qy _ rfl _ G3 H3 (.refl A3.gh) (.str _)⟩
    · have ef : ((sB z).map PyData.int).filterMap (fun d => match d with | .int i => some (PyData.str ⟨#[i.toNat]⟩) | _ => none) = (z.cps.toList.map fun c => (⟨#[c]⟩ : Str)).map PyData.str := by
        rw [sB, List.map_map, List.map_map, List.filterMap_map, ← List.filterMap_eq_map]
        rfl
      rw [ef] at r
      have e := RpL.strs_inv r
      subst e
      refine ⟨_, D, _, rfl, rfl, .inl (ql A3.gh hD), ?_, ?_⟩
      · rw [List.map_map, List.length_map, show ("" : Str).length = 0 by decide +kernel, Nat.mul_zero, Nat.add_zero]
        have : ∀ cs : List Nat, (cs.map ((fun x : Str => x.length) ∘ fun c => (⟨#[c]⟩ : Str))).sum = cs.length := fun cs => by
          induction cs with
          | nil => rfl
          | cons c cs ih => rw [List.map_cons, List.sum_cons, ih, List.length_cons]; exact Nat.add_comm 1 _
        rw [this]
        have : z.cps.toList.length = z.length := by simp [Str.length]
        omega
      · rw [join_str]
        have c3 := c2.call A3
        refine q _ _ _ (A2.call A3) ?_ rfl
        rw [c3.h, tB, List.length_append, List.length_append, Nat.add_assoc]
        rfl
def sp_BodyReader_word (K : PySem.W.Frag) : Sp := fun vs H Q _ => ∃ (G : Hp) (o b dx : Addr) (pre post : List Int) (z : Str), Same G H ∧ vs = [.ref o] ∧ G o = none ∧ H o = some (brO K b dx pre.length) ∧ G b = some (.lst ((pre ++ tB z ++ post).map V.int)) ∧ WordOk z ∧ pre.length ≤ 100000 ∧
  PostB K o b dx (pre.length + (tB z).length) G H Q fun v _ => v = .str z
theorem WordOk.line {z : Str} (h : WordOk z) : LineOk z := fun c hc => by
  have := h.2.2 c hc
  omega
theorem sc_BodyReader_word : FnScope n_BodyReader_word p_BodyReader_word (defScope s_BodyReader_word) := ⟨rfl, rfl, rfl, by decide +kernel, rfl, by decide +kernel, by decide +kernel⟩
theorem ok_BodyReader_word (T : Facts K mg) : FnOk P w K mg base CX0 4 (mA K "BodyReader" "word") (mD K "BodyReader" "word") p_BodyReader_word (sp_BodyReader_word K) := by
  refine T.BodyReader_word.F.ok sc_BodyReader_word (fun vs H Q E h => ?_) (fun cdv A outer s H vs Q E hr h => ?_)
  · obtain ⟨G, o, b, dx, pre, post, z, _, rfl, _⟩ := h
    rfl
  · obtain ⟨G, o, b, dx, pre, post, z, sG, rfl, go, ho, hb, hz, h4, q⟩ := h
    refine ⟨_, PSs.nox (pss_cons (ps_set (i := 1) sc_BodyReader_word.nd rfl (.inl rfl) (pe_meth (pv 0) T.cl_BodyReader T.m_BodyReader_text (ok_BodyReader_text T) (hr.mono (by decide)) T.BodyReader_text.b .nil pass0 (pa_cons (pe_gi rfl T.g_MOST_WORD) pa_nil)))
  (pss_cons (ps_if (pt_not (pt_val (pe_call (ok_is_word T) (hr.mono (by decide)) (by rfl) T.is_word.g T.is_word.kp T.is_word.b .nil pass0 (pa_cons (pv 1) pa_nil))))
    pss_never
    pss_nil)
  (pss_one (ps_ret (pv 1))))), ?_⟩
    have A : Adv (· = o) G H G H := .refl sG
    have co : Cl (· = o) H G H o _ := ⟨.inl rfl, go, ho⟩
    walk_at "sp"
    refine ⟨G, o, b, dx, pre, post, z, 16, sG, rfl, go, ho, hb, hz.2.1, by decide, hz.line, h4, fun v G1 H1 B1 ho1 ev => ?_⟩
    subst ev
    have A1 := co.trans A B1
    have c1 := co.meth B1 ho1
    walk_at "sp"
    refine ⟨G1, z, A1.gh, rfl, hz, fun v G2 H2 B2 ev => ?_⟩
    subst ev
    walk_at "sp"
    exact q _ _ _ (A1.call B2) (c1.call B2).h rfl
def sp_BodyReader_close (K : PySem.W.Frag) : Sp := fun vs H Q _ => ∃ (G : Hp) (o b dx : Addr) (bs : List Int), Same G H ∧ vs = [.ref o] ∧ G o = none ∧ H o = some (brO K b dx bs.length) ∧ G b = some (.lst (bs.map V.int)) ∧ Q .non H
theorem sc_BodyReader_close : FnScope n_BodyReader_close p_BodyReader_close (defScope s_BodyReader_close) := ⟨rfl, rfl, rfl, by decide +kernel, rfl, by decide +kernel, by decide +kernel⟩
theorem ok_BodyReader_close (T : Facts K mg) : FnOk P w K mg base CX0 1 (mA K "BodyReader" "close") (mD K "BodyReader" "close") p_BodyReader_close (sp_BodyReader_close K) := by
  refine T.BodyReader_close.F.ok sc_BodyReader_close (fun vs H Q E h => ?_) (fun cdv A outer s H vs Q E hr h => ?_)
  · obtain ⟨G, o, b, dx, bs, _, rfl, _⟩ := h
    rfl
  · obtain ⟨G, o, b, dx, bs, sG, rfl, go, ho, hb, q⟩ := h
    refine ⟨_, PSs.nox (pss_one (ps_if (pt_cmpR op_lt (pe_fld (pv 0) rfl) (pe_callB call_len_seq rfl T.z_len bi_len (pa_cons (pe_fld (pv 0) rfl) pa_nil)) (nomark _))
    pss_never
    pss_nil)), ?_⟩
    have A : Adv (· = o) G H G H := .refl sG
    have co : Cl (· = o) H G H o _ := ⟨.inl rfl, go, ho⟩
    walk_at "sp"
    exact q
/-- a reader made -/
theorem mk_br {M : Addr → Prop} {G0 H0 G H : Hp} {b : Addr} {E : XK} {Q : VK} (A : Adv M G0 H0 G H) (k : ∀ o dx H', Adv M G0 H0 G H' → Cl M H0 G H' o (brO K b dx 0) → H0 o = none → (∀ p x, Cl M H0 G H p x → Cl M H0 G H' p x ∧ p ≠ o) → Q (.ref o) H') :
    MkO (cA K "BodyReader") (sp_BodyReader_init K) [.ref b] E H Q := S_mk A fun x dx H1 A1 c1 f1 mm => ⟨G, x, dx, .ref b, A1.gh, rfl, c1.g, c1.h, fun H2 B2 h2 => ⟨rfl, k x dx H2 (c1.trans A1 B2) (c1.meth B2 h2) f1 fun p y m => by
  obtain ⟨m1, n1⟩ := mm p y m
  exact ⟨m1.callM B2 n1, n1⟩⟩⟩
section
variable {M : Addr → Prop} {G0 H0 G H : Hp} {o b dx : Addr} {E : XK} {Q : VK} {k : Nat} {bs : List Int}
theorem br_number (n lo hi : Nat) (pre post : List Int) (A : Adv M G0 H0 G H) (co : Cl M H0 G H o (brO K b dx k)) (hb : G b = some (.lst (bs.map V.int))) (e : bs = pre ++ putS n ++ post) (hk : k = pre.length) (hn : n < 2 ^ 40) (h1 : lo ≤ n) (h2 : n ≤ hi) (l : k ≤ 100000)
    (q : ∀ G' H', Adv M G0 H0 G' H' → Cl M H0 G' H' o (brO K b dx (pre ++ putS n).length) → Same G G' → (∀ p x, Cl M H0 G H p x → p ≠ o → Cl M H0 G' H' p x) → Q (.int n) H') : sp_BodyReader_number K [.ref o, .int lo, .int hi] H Q E := by
  subst hk
  refine ⟨G, o, b, dx, pre, post, n, lo, hi, A.gh, rfl, co.g, co.h, by rw [hb, e], hn, h1, h2, l, fun v G' H' B h ev => ?_⟩
  subst ev
  refine q G' H' (co.trans A B) ?_ B.gg fun p x m ne => m.callM B ne
  rw [List.length_append]
  exact co.meth B h
theorem br_take (n : Nat) (pre xs post : List Int) (A : Adv M G0 H0 G H) (co : Cl M H0 G H o (brO K b dx k)) (hb : G b = some (.lst (bs.map V.int))) (e : bs = pre ++ xs ++ post) (hk : k = pre.length) (hn : n = xs.length)
    (q : ∀ a G' H', Adv M G0 H0 G' H' → Cl M H0 G' H' o (brO K b dx (pre ++ xs).length) → Same G G' → G' a = some (.lst (xs.map V.int)) → (∀ p x, Cl M H0 G H p x → p ≠ o → Cl M H0 G' H' p x) → Q (.ref a) H') : sp_BodyReader_take K [.ref o, .int n] H Q E := by
  subst hk
  refine ⟨G, o, b, dx, pre, xs, post, n, A.gh, rfl, co.g, co.h, by rw [hb, e], hn, fun v G' H' B h rv => ?_⟩
  obtain ⟨a, rfl, ha⟩ := rv.ints
  refine q a G' H' (co.trans A B) ?_ B.gg ha fun p x m ne => m.callM B ne
  rw [List.length_append]
  exact co.meth B h
theorem br_text (z : Str) (hi : Nat) (pre post : List Int) (A : Adv M G0 H0 G H) (co : Cl M H0 G H o (brO K b dx k)) (hb : G b = some (.lst (bs.map V.int))) (e : bs = pre ++ tB z ++ post) (hk : k = pre.length) (h1 : z.length ≤ hi) (h2 : hi ≤ 1000) (h3 : LineOk z) (l : k ≤ 100000)
    (q : ∀ G' H', Adv M G0 H0 G' H' → Cl M H0 G' H' o (brO K b dx (pre ++ tB z).length) → Same G G' → (∀ p x, Cl M H0 G H p x → p ≠ o → Cl M H0 G' H' p x) → Q (.str z) H') : sp_BodyReader_text K [.ref o, .int hi] H Q E := by
  subst hk
  refine ⟨G, o, b, dx, pre, post, z, hi, A.gh, rfl, co.g, co.h, by rw [hb, e], h1, h2, h3, l, fun v G' H' B h ev => ?_⟩
  subst ev
  refine q G' H' (co.trans A B) ?_ B.gg fun p x m ne => m.callM B ne
  rw [List.length_append]
  exact co.meth B h
theorem br_word (z : Str) (pre post : List Int) (A : Adv M G0 H0 G H) (co : Cl M H0 G H o (brO K b dx k)) (hb : G b = some (.lst (bs.map V.int))) (e : bs = pre ++ tB z ++ post) (hk : k = pre.length) (h3 : WordOk z) (l : k ≤ 100000)
    (q : ∀ G' H', Adv M G0 H0 G' H' → Cl M H0 G' H' o (brO K b dx (pre ++ tB z).length) → Same G G' → (∀ p x, Cl M H0 G H p x → p ≠ o → Cl M H0 G' H' p x) → Q (.str z) H') : sp_BodyReader_word K [.ref o] H Q E := by
  subst hk
  refine ⟨G, o, b, dx, pre, post, z, A.gh, rfl, co.g, co.h, by rw [hb, e], h3, l, fun v G' H' B h ev => ?_⟩
  subst ev
  refine q G' H' (co.trans A B) ?_ B.gg fun p x m ne => m.callM B ne
  rw [List.length_append]
  exact co.meth B h
theorem br_close (A : Adv M G0 H0 G H) (co : Cl M H0 G H o (brO K b dx k)) (hb : G b = some (.lst (bs.map V.int))) (hk : k = bs.length) (q : Q .non H) : sp_BodyReader_close K [.ref o] H Q E := by
  subst hk
  exact ⟨G, o, b, dx, bs, A.gh, rfl, co.g, co.h, hb, q⟩
end
end
/-! w14 -/
section
variable {P : Program} {w : World} {K : PySem.W.Frag} {mg : Str → Option Value} {base : Heap}
/-! ### bodies read -/
structure RowR (r : RowT) : Prop where
  s : RowOk r
  name : LineOk r.1
  kind : WordOk r.2.1
abbrev HeadD (tk sk : Nat) (rows : List RowT) : PyData := .tuple [.int tk, .int sk, .list (rows.map RowD)]
theorem flat_cut {α : Type} {f : α → List Int} {xs : List α} {i : Nat} {x : α} (h : xs[i]? = some x) : xs.flatMap f = (xs.take i).flatMap f ++ f x ++ (xs.drop (i + 1)).flatMap f := by
  conv => lhs; rw [← List.take_append_drop i xs, drop_cons h]
  simp
theorem flat_snoc {α : Type} {f : α → List Int} {xs : List α} {i : Nat} {x : α} (h : xs[i]? = some x) : (xs.take (i + 1)).flatMap f = (xs.take i).flatMap f ++ f x := by
  rw [take_snoc h, List.flatMap_append]
  simp
def sp_read_head : Sp := fun vs H Q _ => ∃ (G : Hp) (r : V) (tk sk : Nat) (rows : List RowT), Same G H ∧ vs = [r] ∧ Rp G r (IntsD (hB tk sk rows)) ∧ 1 ≤ tk ∧ tk ≤ 90000 ∧ sk < 1099511627776 ∧ rows.length ≤ 15 ∧ (∀ x ∈ rows, RowR x) ∧ Post G H Q fun v G' => Rp G' v (HeadD tk sk rows)
theorem sc_read_head : FnScope n_read_head p_read_head (defScope s_read_head) := ⟨rfl, rfl, rfl, by decide +kernel, rfl, by decide +kernel, by decide +kernel⟩
theorem ok_read_head (T : Facts K mg) : FnOk P w K mg base CX0 5 (fA K "read_head") (fD K "read_head") p_read_head sp_read_head := by
  refine T.read_head.F.ok sc_read_head (fun vs H Q E h => ?_) (fun cdv A outer s H vs Q E hr h => ?_)
  · obtain ⟨G, r, tk, sk, rows, _, rfl, _⟩ := h
    rfl
  · obtain ⟨G, r, tk, sk, rows, sG, rfl, hr0, t1, t2, s1, hl, hok, q⟩ := h
    obtain ⟨b, rfl, hb⟩ := hr0.ints
    refine ⟨_, PSs.nox (pss_cons (ps_set (i := 1) sc_read_head.nd rfl (.inl rfl) (pe_make T.mk_BodyReader (ok_BodyReader_init T) (hr.mono (by decide)) (by rfl) T.g_BodyReader T.BodyReader_init.b .nil pass0 (pa_cons (pv 0) pa_nil)))
  (pss_cons (ps_if (pt_cmpR (op_neD hr.units) (pe_meth (pv 1) T.cl_BodyReader T.m_BodyReader_take (ok_BodyReader_take T) (hr.mono (by decide)) T.BodyReader_take.b .nil pass0 (pa_cons (pe_callB call_len_str rfl T.z_len bi_len (pa_cons (pe_gs rfl T.g_LETTERS) pa_nil)) pa_nil)) (pe_call (ok_bytes_of T) (hr.mono (by decide)) (by rfl) T.bytes_of.g T.bytes_of.kp T.bytes_of.b .nil pass0 (pa_cons (pe_gs rfl T.g_LETTERS) pa_nil)) (nomark _))
    pss_never
    pss_nil)
  (pss_cons (ps_expr (pe_meth (pv 1) T.cl_BodyReader T.m_BodyReader_number (ok_BodyReader_number T) (hr.mono (by decide)) T.BodyReader_number.b .nil pass0 (pa_cons (pe_gi rfl T.g_VERSION) (pa_cons (pe_gi rfl T.g_VERSION) pa_nil))))
  (pss_cons (ps_set (i := 2) sc_read_head.nd rfl (.inl rfl) (pe_meth (pv 1) T.cl_BodyReader T.m_BodyReader_number (ok_BodyReader_number T) (hr.mono (by decide)) T.BodyReader_number.b .nil pass0 (pa_cons pe_int (pa_cons (pe_gi rfl T.g_MOST_TICKS) pa_nil))))
  (pss_cons (ps_set (i := 3) sc_read_head.nd rfl (.inl rfl) (pe_meth (pv 1) T.cl_BodyReader T.m_BodyReader_number (ok_BodyReader_number T) (hr.mono (by decide)) T.BodyReader_number.b .nil pass0 (pa_cons pe_int (pa_cons (pe_op op_sub (pe_gi rfl T.g_TIME_BOUND) pe_int) pa_nil))))
  (pss_cons (ps_set (i := 4) sc_read_head.nd rfl (.inl rfl) (pe_lst pa_nil))
  (pss_cons (ps_for PassesOwn.never rfl (pi_range1 rfl T.z_range (pa_cons (pe_meth (pv 1) T.cl_BodyReader T.m_BodyReader_number (ok_BodyReader_number T) (hr.mono (by decide)) T.BodyReader_number.b .nil pass0 (pa_cons pe_int (pa_cons (pe_gi rfl T.g_MOST_TRACKS) pa_nil))) pa_nil)) (pg_name (i := 5) sc_read_head.nd rfl (.inl rfl))
    (pss_cons (ps_set (i := 6) sc_read_head.nd rfl (.inl rfl) (pe_meth (pv 1) T.cl_BodyReader T.m_BodyReader_text (ok_BodyReader_text T) (hr.mono (by decide)) T.BodyReader_text.b .nil pass0 (pa_cons (pe_gi rfl T.g_MOST_NAME) pa_nil)))
  (pss_cons (ps_set (i := 7) sc_read_head.nd rfl (.inl rfl) (pe_meth0 (pv 1) T.cl_BodyReader T.m_BodyReader_word (ok_BodyReader_word T) (hr.mono (by decide)) T.BodyReader_word.b .nil pass0))
  (pss_one (ps_expr (pe_bm PySem.F.plainAttrs_list PySem.F.slot_list_append PySem.F.type_list_append mt_append (pv 4) (pa_cons (pe_tup (pa_cons (pv 6) (pa_cons (pv 7) (pa_cons (pe_meth (pv 1) T.cl_BodyReader T.m_BodyReader_number (ok_BodyReader_number T) (hr.mono (by decide)) T.BodyReader_number.b .nil pass0 (pa_cons pe_int (pa_cons (pe_gi rfl T.g_MOST_UNITS_presentation) pa_nil))) pa_nil)))) pa_nil)))))))
  (pss_cons (ps_expr (pe_meth0 (pv 1) T.cl_BodyReader T.m_BodyReader_close (ok_BodyReader_close T) (hr.mono (by decide)) T.BodyReader_close.b .nil pass0))
  (pss_one (ps_ret (pe_tup (pa_cons (pv 2) (pa_cons (pv 3) (pa_cons (pv 4) pa_nil)))))))))))))), ?_⟩
    have A : Adv0 G H G H := .refl sG
    have l1 := putS_le (n := tk) (by omega)
    have l2 := putS_le (n := sk) (by omega)
    have l3 := putS_le (n := rows.length) (by omega)
    have l4 : (sB "spool").length = 5 := by decide +kernel
    have l5 := putS_le (n := 1) (by omega)
    have w1 : hB tk sk rows = [] ++ sB "spool" ++ (putS 1 ++ putS tk ++ putS sk ++ putS rows.length ++ rows.flatMap rB) := by simp [hB]
    have w2 : hB tk sk rows = sB "spool" ++ putS 1 ++ (putS tk ++ putS sk ++ putS rows.length ++ rows.flatMap rB) := by simp [hB]
    have w3 : hB tk sk rows = (sB "spool" ++ putS 1) ++ putS tk ++ (putS sk ++ putS rows.length ++ rows.flatMap rB) := by simp [hB]
    have w4 : hB tk sk rows = (sB "spool" ++ putS 1 ++ putS tk) ++ putS sk ++ (putS rows.length ++ rows.flatMap rB) := by simp [hB]
    have w5 : hB tk sk rows = (sB "spool" ++ putS 1 ++ putS tk ++ putS sk) ++ putS rows.length ++ rows.flatMap rB := by simp [hB]
    generalize hb0 : sB "spool" ++ putS 1 ++ putS tk ++ putS sk ++ putS rows.length = b0 at w5
    have lb0 : b0.length ≤ 29 := by
      rw [← hb0]
      walk_at "sp om"
    generalize hB tk sk rows = bs at hb hr0 w1 w2 w3 w4 w5
    walk_at "sp"
    refine mk_br A fun o dx H1 A1 co fo _ => ?_
    walk_at "sp"
    refine S_lenS (z := "spool") (line_le (by decide +kernel)) ?_
    walk_at "sp"
    refine br_take ("spool" : Str).length [] (sB "spool") _ A1 co (A1.gg _ _ hb) w1 rfl (sB_len _).symm fun p2 G2 H2 A2 co g2 hp2 _ => ?_
    walk_at "sp"
    refine ⟨G2, "spool", A2.gh, rfl, by decide +kernel, S_postI A2 fun p3 G3 H3 A3 B3 hp3 => ?_⟩
    have co := co.call B3
    refine ⟨_, _, (rp_ints (B3.gg _ _ hp2)).dp A3.gh, (rp_ints hp3).dp A3.gh, (Shp.ints 0 _).shaped (by decide), (Shp.ints 0 _).shaped (by decide), ?_⟩
    rw [(Shp.ints 0 _).eqv]
    walk_at "sp"
    refine br_number 1 1 1 (sB "spool") _ A3 co (A3.gg _ _ hb) w2 rfl (by decide) (by decide) (by decide) (by walk_at "sp om") fun G4 H4 A4 co g4 _ => ?_
    walk_at "sp"
    refine br_number tk 1 90000 _ _ A4 co (A4.gg _ _ hb) w3 rfl (by omega) (by omega) (by omega) (by walk_at "sp om") fun G5 H5 A5 co g5 _ => ?_
    walk_at "sp"
    refine br_number sk 0 1099511627775 _ _ A5 co (A5.gg _ _ hb) w4 rfl (by omega) (by omega) (by omega) (by walk_at "sp om") fun G6 H6 A6 co g6 _ => ?_
    walk_at "sp"
    refine ⟨line_le (by walk_at "sp om"), S_newM A6 fun l H7 A7 cl fl mm => ?_⟩
    obtain ⟨co, nlo⟩ := mm _ _ co
    clear mm
    walk_at "sp"
    refine br_number rows.length 0 15 _ _ A7 co (A7.gg _ _ hb) (w5.trans (by rw [hb0])) rfl (by omega) (by omega) (by omega) (by walk_at "sp om") fun G8 H8 A8 co g8 mm => ?_
    have cl := mm _ _ cl (Ne.symm nlo)
    clear mm
    rw [hb0] at co
    walk_at "sp"
    refine S_rn1 (k := rows.length) rfl (by omega) (S_forR (fun i σ H1 => ∃ (x5 x6 x7 : Option V) (G1 : Hp) (vs : List V), σ = [some (.ref b), some (.ref o), some (.int tk), some (.int sk), some (.ref l), x5, x6, x7] ∧ Adv0 G H G1 H1 ∧
      Cl No H G1 H1 o (brO K b dx (b0 ++ (rows.take i).flatMap rB).length) ∧ Cl No H G1 H1 l (.lst vs) ∧ RpL G1 vs ((rows.take i).map RowD)) ⟨none, none, none, G8, [], rfl, A8, by rw [show b0 ++ (rows.take 0).flatMap rB = b0 by simp]; exact co, cl, .nil⟩ ?_ ?_)
    · rintro i σ H1 hi ⟨x5, x6, x7, G1, vs, rfl, A1, co, cl, rl⟩
      have hri : rows[i]? = some (rows[i]'hi) := List.getElem?_eq_getElem hi
      have okr := hok _ (List.getElem_mem hi)
      generalize rows[i]'hi = row at hri okr
      have k1 := okr.s.name
      have k2 := okr.s.kind
      have k3 := okr.s.count
      have ll : ((rows.take i).flatMap rB).length ≤ 218 * (rows.take i).length := flat_len fun t ht => rB_len (hok t (List.mem_of_mem_take ht)).s
      rw [List.length_take] at ll
      have m1 := tB_len (z := row.1) (by omega)
      have m2 := tB_len (z := row.2.1) (by omega)
      have m3 := putS_le (n := row.2.2) (by omega)
      have u1 : bs = (b0 ++ (rows.take i).flatMap rB) ++ tB row.1 ++ (tB row.2.1 ++ putS row.2.2 ++ (rows.drop (i + 1)).flatMap rB) := by
        rw [w5, flat_cut hri]
        simp [rB]
      have u2 : bs = (b0 ++ (rows.take i).flatMap rB ++ tB row.1) ++ tB row.2.1 ++ (putS row.2.2 ++ (rows.drop (i + 1)).flatMap rB) := by
        rw [u1]
        simp
      have u3 : bs = (b0 ++ (rows.take i).flatMap rB ++ tB row.1 ++ tB row.2.1) ++ putS row.2.2 ++ (rows.drop (i + 1)).flatMap rB := by
        rw [u1]
        simp
      have nlo : l ≠ o := cl.ne co (fun z => nomatch z)
      have lvs := rl.len
      rw [List.length_map, List.length_take] at lvs
      walk_at "sp"
      refine br_text row.1 32 _ _ A1 co (A1.gg _ _ hb) u1 rfl (by omega) (by omega) okr.name (by walk_at "sp om") fun G2 H2 A2 co g2 mm => ?_
      have cl := mm _ _ cl nlo
      clear mm
      walk_at "sp"
      refine br_word row.2.1 _ _ A2 co (A2.gg _ _ hb) u2 rfl okr.kind (by walk_at "sp om") fun G3 H3 A3 co g3 mm => ?_
      have cl := mm _ _ cl nlo
      clear mm
      walk_at "sp"
      refine br_number row.2.2 0 300 _ _ A3 co (A3.gg _ _ hb) u3 rfl (by omega) (by omega) (by omega) (by walk_at "sp om") fun G4 H4 A4 co g4 mm => ?_
      have cl := mm _ _ cl nlo
      clear mm
      walk_at "sp"
      refine ⟨line_le (by walk_at "sp om"), S_newF A4 fun p5 G5 H5 A5 g5 hp5 mm => ?_⟩
      have cl := mm _ _ cl
      have co := mm _ _ co
      clear mm
      walk_at "sp"
      refine S_app' A5 cl (by omega) fun H6 A6 cl mm => ?_
      have co := mm _ _ co (Ne.symm nlo)
      refine ⟨_, _, _, G5, _, rfl, A6, ?_, cl, ?_⟩
      · rw [flat_snoc hri]
        have : b0 ++ ((rows.take i).flatMap rB ++ rB row) = b0 ++ (rows.take i).flatMap rB ++ tB row.1 ++ tB row.2.1 ++ putS row.2.2 := by simp [rB]
        rw [this]
        exact co
      · rw [take_snoc hri, List.map_append]
        exact (rl.mono ((g2.trans g3).trans (g4.trans g5))).snoc (.tup hp5 (.cons (.str _) (.cons (.str _) (.cons (.int _) .nil))))
    · rintro σ H1 ⟨x5, x6, x7, G1, vs, rfl, A1, co, cl, rl⟩
      rw [List.take_length] at co rl
      walk_at "sp"
      refine br_close A1 co (A1.gg _ _ hb) (by rw [w5]) ?_
      walk_at "sp"
      refine ⟨line_le (by walk_at "sp om"), ?_⟩
      have A2 := A1.still fl cl.h cl.g
      refine S_newF A2 fun p3 G3 H3 A3 g3 hp3 _ => ?_
      refine q _ _ _ A3 (.tup hp3 (.cons (.int _) (.cons (.int _) (.cons (.lst (g3 _ _ upd_same) (rl.mono ((same_new cl.g).trans g3))) .nil))))
end
/-! w15 -/
section
variable {P : Program} {w : World} {K : PySem.W.Frag} {mg : Str → Option Value} {base : Heap}
theorem tgB_pos (t : TagT) : 1 ≤ (tgB t).length := by
  have : 1 ≤ (putS t.1.length).length := by
    by_cases h : t.1.length < 128
    · rw [putS_small h]
      exact Nat.le_refl _
    · rw [putS_big h, List.length_cons]
      omega
  rw [tgB, List.length_append, tB, List.length_append]
  omega
theorem gB_ge (tags : List TagT) : tags.length ≤ (gB tags).length := by
  rw [gB, List.length_append]
  have : ∀ ts : List TagT, ts.length ≤ (ts.flatMap tgB).length := fun ts => by
    induction ts with
    | nil => simp
    | cons t ts ih =>
      have := tgB_pos t
      rw [List.flatMap_cons, List.length_append, List.length_cons]
      omega
  have := this tags
  omega
def sp_read_tags : Sp := fun vs H Q _ => ∃ (G : Hp) (r : V) (tags : List TagT), Same G H ∧ vs = [r] ∧ Rp G r (IntsD (gB tags)) ∧ 1 ≤ tags.length ∧ tags.length ≤ 10 ∧ (∀ x ∈ tags, TagOk x) ∧ TSort tags ∧ Post G H Q fun v G' => Rp G' v (.list (tags.map TagD))
theorem sc_read_tags : FnScope n_read_tags p_read_tags (defScope s_read_tags) := ⟨rfl, rfl, rfl, by decide +kernel, rfl, by decide +kernel, by decide +kernel⟩
theorem ok_read_tags (T : Facts K mg) : FnOk P w K mg base CX0 5 (fA K "read_tags") (fD K "read_tags") p_read_tags sp_read_tags := by
  refine T.read_tags.F.ok sc_read_tags (fun vs H Q E h => ?_) (fun cdv A outer s H vs Q E hr h => ?_)
  · obtain ⟨G, r, tags, _, rfl, _⟩ := h
    rfl
  · obtain ⟨G, r, tags, sG, rfl, hr0, l0, hl, hok, hs, q⟩ := h
    obtain ⟨b, rfl, hb⟩ := hr0.ints
    refine ⟨_, PSs.nox (pss_cons (ps_set (i := 1) sc_read_tags.nd rfl (.inl rfl) (pe_make T.mk_BodyReader (ok_BodyReader_init T) (hr.mono (by decide)) (by rfl) T.g_BodyReader T.BodyReader_init.b .nil pass0 (pa_cons (pv 0) pa_nil)))
  (pss_cons (ps_set (i := 2) sc_read_tags.nd rfl (.inl rfl) (pe_lst pa_nil))
  (pss_cons (ps_for PassesOwn.never rfl (pi_range1 rfl T.z_range (pa_cons (pe_meth (pv 1) T.cl_BodyReader T.m_BodyReader_number (ok_BodyReader_number T) (hr.mono (by decide)) T.BodyReader_number.b .nil pass0 (pa_cons pe_int (pa_cons (pe_callB call_len_seq rfl T.z_len bi_len (pa_cons (pv 0) pa_nil)) pa_nil))) pa_nil)) (pg_name (i := 3) sc_read_tags.nd rfl (.inl rfl))
    (pss_cons (ps_set (i := 4) sc_read_tags.nd rfl (.inl rfl) (pe_meth0 (pv 1) T.cl_BodyReader T.m_BodyReader_word (ok_BodyReader_word T) (hr.mono (by decide)) T.BodyReader_word.b .nil pass0))
  (pss_cons (ps_if (PW.pt (pw_and (pt_cmpR op_gt (pe_callB call_len_seq rfl T.z_len bi_len (pa_cons (pv 2) pa_nil)) pe_int (nomark _)) (pw_and1 (pt_cmpR op_le_str (pv 4) (pe_ix ix_tup (pe_ix ix_list (pv 2) (pe_un un_neg pe_int) (fun _ _ => rfl)) pe_int (fun _ _ => rfl)) (nomark _)))))
    pss_never
    pss_nil)
  (pss_one (ps_expr (pe_bm PySem.F.plainAttrs_list PySem.F.slot_list_append PySem.F.type_list_append mt_append (pv 2) (pa_cons (pe_tup (pa_cons (pv 4) (pa_cons (pe_meth (pv 1) T.cl_BodyReader T.m_BodyReader_text (ok_BodyReader_text T) (hr.mono (by decide)) T.BodyReader_text.b .nil pass0 (pa_cons (pe_gi rfl T.g_MOST_VALUE) pa_nil)) pa_nil))) pa_nil)))))))
  (pss_cons (ps_expr (pe_meth0 (pv 1) T.cl_BodyReader T.m_BodyReader_close (ok_BodyReader_close T) (hr.mono (by decide)) T.BodyReader_close.b .nil pass0))
  (pss_cons (ps_if (pt_cmpR op_gt (pe_callB call_len_seq rfl T.z_len bi_len (pa_cons (pv 0) pa_nil)) (pe_gi rfl T.g_MOST_BODY_presentation) (nomark _))
    pss_never
    pss_nil)
  (pss_one (ps_ret (pv 2)))))))), ?_⟩
    have A : Adv0 G H G H := .refl sG
    have l1 := gB_len (fun t ht => (hok t ht).s) hl
    have l2 := gB_ge tags
    have l3 := putS_le (n := tags.length) (by omega)
    have w1 : gB tags = [] ++ putS tags.length ++ tags.flatMap tgB := by simp [gB]
    have w2 : gB tags = putS tags.length ++ tags.flatMap tgB := rfl
    generalize gB tags = bs at hb w1 w2 l1 l2
    walk_at "sp"
    refine mk_br A fun o dx H1 A1 co fo _ => ?_
    walk_at "sp"
    refine ⟨line_le (by walk_at "sp om"), S_newM A1 fun l H2 A2 cl fl mm => ?_⟩
    obtain ⟨co, nlo⟩ := mm _ _ co
    clear mm
    walk_at "sp"
    refine br_number tags.length 1 (bs.map V.int).length [] _ A2 co (A2.gg _ _ hb) w1 rfl (by omega) (by omega) (by rw [List.length_map]; omega) (by decide) fun G3 H3 A3 co g3 mm => ?_
    have cl := mm _ _ cl (Ne.symm nlo)
    clear mm
    walk_at "sp"
    refine S_rn1 (k := tags.length) rfl (by omega) (S_forR (fun i σ H1 => ∃ (x3 x4 : Option V) (G1 : Hp) (vs : List V), σ = [some (.ref b), some (.ref o), some (.ref l), x3, x4] ∧ Adv0 G H G1 H1 ∧
      Cl No H G1 H1 o (brO K b dx (putS tags.length ++ (tags.take i).flatMap tgB).length) ∧ Cl No H G1 H1 l (.lst vs) ∧ RpL G1 vs ((tags.take i).map TagD)) ⟨none, none, G3, [], rfl, A3, by rw [show putS tags.length ++ (tags.take 0).flatMap tgB = [] ++ putS tags.length by simp]; exact co, cl, .nil⟩ ?_ ?_)
    · rintro i σ H1 hi ⟨x3, x4, G1, vs, rfl, A1, co, cl, rl⟩
      have hri : tags[i]? = some (tags[i]'hi) := List.getElem?_eq_getElem hi
      have okr := hok _ (List.getElem_mem hi)
      generalize tags[i]'hi = tag at hri okr
      have k1 := okr.s.1
      have k2 := okr.s.2
      have ll : ((tags.take i).flatMap tgB).length ≤ 44 * (tags.take i).length := flat_len fun t ht => tgB_len (hok t (List.mem_of_mem_take ht)).s
      rw [List.length_take] at ll
      have m1 := tB_len (z := tag.1) (by omega)
      have m2 := tB_len (z := tag.2) (by omega)
      have u1 : bs = (putS tags.length ++ (tags.take i).flatMap tgB) ++ tB tag.1 ++ (tB tag.2 ++ (tags.drop (i + 1)).flatMap tgB) := by
        rw [w2, flat_cut hri]
        simp [tgB]
      have u2 : bs = (putS tags.length ++ (tags.take i).flatMap tgB ++ tB tag.1) ++ tB tag.2 ++ (tags.drop (i + 1)).flatMap tgB := by
        rw [u1]
        simp
      have nlo : l ≠ o := cl.ne co (fun z => nomatch z)
      have lvs := rl.len
      rw [List.length_map, List.length_take] at lvs
      walk_at "sp"
      refine br_word tag.1 _ _ A1 co (A1.gg _ _ hb) u1 rfl okr.key (by walk_at "sp om") fun G2 H2 A2 co g2 mm => ?_
      have cl := mm _ _ cl nlo
      clear mm
      have rl := rl.mono g2
      have last : ∀ (σ' : L2.St), σ' = [some (.ref b), some (.ref o), some (.ref l), some (.int (0 + (i : Nat))), some (.str tag.1)] → Adv0 G H G2 H2 → sp_BodyReader_text K [.ref o, .int 100] H2 (fun v H3 => AllT [.str tag.1, v] H3 fun v H4 => rAppend (.ref l) [v] H4 fun _ H5 => ∃ (x3 x4 : Option V) (G1 : Hp) (vs : List V), σ' = [some (.ref b), some (.ref o), some (.ref l), x3, x4] ∧ Adv0 G H G1 H5 ∧
          Cl No H G1 H5 o (brO K b dx (putS tags.length ++ (tags.take (i + 1)).flatMap tgB).length) ∧ Cl No H G1 H5 l (.lst vs) ∧ RpL G1 vs ((tags.take (i + 1)).map TagD)) E0 := fun σ' hσ A2 => by
        refine br_text tag.2 100 _ _ A2 co (A2.gg _ _ hb) u2 rfl (by omega) (by omega) okr.value (by walk_at "sp om") fun G3 H3 A3 co g3 mm => ?_
        have cl := mm _ _ cl nlo
        clear mm
        refine ⟨line_le (by walk_at "sp om"), S_newF A3 fun p5 G5 H5 A5 g5 hp5 mm => ?_⟩
        have cl := mm _ _ cl
        have co := mm _ _ co
        clear mm
        refine S_app' A5 cl (by omega) fun H6 A6 cl mm => ?_
        have co := mm _ _ co (Ne.symm nlo)
        refine ⟨_, _, G5, _, hσ, A6, ?_, cl, ?_⟩
        · rw [flat_snoc hri]
          have : putS tags.length ++ ((tags.take i).flatMap tgB ++ tgB tag) = putS tags.length ++ (tags.take i).flatMap tgB ++ tB tag.1 ++ tB tag.2 := by simp [tgB]
          rw [this]
          exact co
        · rw [take_snoc hri, List.map_append]
          exact (rl.mono (g3.trans g5)).snoc (.tup hp5 (.cons (.str _) (.cons (.str _) .nil)))
      by_cases c : i = 0
      · walk_at "sp"
        exact last _ rfl A2
      · obtain ⟨j, rfl⟩ : ∃ j, i = j + 1 := ⟨i - 1, by omega⟩
        have huj : tags[j]? = some (tags[j]'(by omega)) := List.getElem?_eq_getElem (by omega)
        generalize tags[j]'(by omega) = u at huj
        have hlt := hs j u _ huj hri
        have hvs : ∃ vs0 a, vs = vs0 ++ [.ref a] ∧ G2 a = some (.tup [.str u.1, .str u.2]) := by
          rw [take_snoc huj, List.map_append] at rl
          obtain ⟨vj, hvj, rj⟩ := rl.get (i := j) (d := TagD u) (by rw [List.getElem?_append_right (by simp; omega), List.length_map, List.length_take, Nat.min_eq_left (by omega), Nat.sub_self]; rfl)
          obtain ⟨a, rfl, ha⟩ := rj.tag
          refine ⟨vs.take j, a, ?_, ha⟩
          have e := take_snoc hvj
          rw [List.take_of_length_le (by omega)] at e
          exact e
        obtain ⟨vs0, a, rfl, ha⟩ := hvs
        walk_at "sp"
        refine S_ixL cl.l (atI_last _ _) ?_
        walk_at "sp"
        exact last _ rfl A2
    · rintro σ H1 ⟨x3, x4, G1, vs, rfl, A1, co, cl, rl⟩
      rw [List.take_length] at co rl
      walk_at "sp"
      refine br_close A1 co (A1.gg _ _ hb) (by rw [w2]) ?_
      walk_at "sp"
      exact q _ _ _ (A1.still fl cl.h cl.g) (.lst upd_same (rl.mono (same_new cl.g)))
end
/-! w16 -/
section
variable {P : Program} {w : World} {K : PySem.W.Frag} {mg : Str → Option Value} {base : Heap}
structure EntR (e : EntT) : Prop where
  track : e.1 ≤ 15
  time : e.2.1 < 1099511627776
  off : e.2.2 < 1099511627776
theorem EntR.s {e : EntT} (h : EntR e) : EntS e := ⟨by have := h.track; omega, by have := h.time; omega, by have := h.off; omega⟩
def sp_read_index : Sp := fun vs H Q _ => ∃ (G : Hp) (r : V) (es : List EntT), Same G H ∧ vs = [r] ∧ Rp G r (IntsD (eB es)) ∧ es.length ≤ 50 ∧ (∀ x ∈ es, EntR x) ∧ Post G H Q fun v G' => Rp G' v (.list (es.map EntD))
theorem sc_read_index : FnScope n_read_index p_read_index (defScope s_read_index) := ⟨rfl, rfl, rfl, by decide +kernel, rfl, by decide +kernel, by decide +kernel⟩
theorem ok_read_index (T : Facts K mg) : FnOk P w K mg base CX0 3 (fA K "read_index") (fD K "read_index") p_read_index sp_read_index := by
  refine T.read_index.F.ok sc_read_index (fun vs H Q E h => ?_) (fun cdv A outer s H vs Q E hr h => ?_)
  · obtain ⟨G, r, es, _, rfl, _⟩ := h
    rfl
  · obtain ⟨G, r, es, sG, rfl, hr0, hl, hok, q⟩ := h
    obtain ⟨b, rfl, hb⟩ := hr0.ints
    refine ⟨_, PSs.nox (pss_cons (ps_set (i := 1) sc_read_index.nd rfl (.inl rfl) (pe_make T.mk_BodyReader (ok_BodyReader_init T) (hr.mono (by decide)) (by rfl) T.g_BodyReader T.BodyReader_init.b .nil pass0 (pa_cons (pv 0) pa_nil)))
  (pss_cons (ps_set (i := 2) sc_read_index.nd rfl (.inl rfl) (pe_lst pa_nil))
  (pss_cons (ps_for PassesOwn.never rfl (pi_range1 rfl T.z_range (pa_cons (pe_meth (pv 1) T.cl_BodyReader T.m_BodyReader_number (ok_BodyReader_number T) (hr.mono (by decide)) T.BodyReader_number.b .nil pass0 (pa_cons pe_int (pa_cons (pe_gi rfl T.g_MOST_ENTRIES) pa_nil))) pa_nil)) (pg_name (i := 3) sc_read_index.nd rfl (.inl rfl))
    (pss_cons (ps_set (i := 4) sc_read_index.nd rfl (.inl rfl) (pe_meth (pv 1) T.cl_BodyReader T.m_BodyReader_number (ok_BodyReader_number T) (hr.mono (by decide)) T.BodyReader_number.b .nil pass0 (pa_cons pe_int (pa_cons (pe_gi rfl T.g_MOST_TRACKS) pa_nil))))
  (pss_cons (ps_set (i := 5) sc_read_index.nd rfl (.inl rfl) (pe_meth (pv 1) T.cl_BodyReader T.m_BodyReader_number (ok_BodyReader_number T) (hr.mono (by decide)) T.BodyReader_number.b .nil pass0 (pa_cons pe_int (pa_cons (pe_op op_sub (pe_gi rfl T.g_TIME_BOUND) pe_int) pa_nil))))
  (pss_one (ps_expr (pe_bm PySem.F.plainAttrs_list PySem.F.slot_list_append PySem.F.type_list_append mt_append (pv 2) (pa_cons (pe_tup (pa_cons (pv 4) (pa_cons (pv 5) (pa_cons (pe_meth (pv 1) T.cl_BodyReader T.m_BodyReader_number (ok_BodyReader_number T) (hr.mono (by decide)) T.BodyReader_number.b .nil pass0 (pa_cons pe_int (pa_cons (pe_op op_sub (pe_gi rfl T.g_TIME_BOUND) pe_int) pa_nil))) pa_nil)))) pa_nil)))))))
  (pss_cons (ps_expr (pe_meth0 (pv 1) T.cl_BodyReader T.m_BodyReader_close (ok_BodyReader_close T) (hr.mono (by decide)) T.BodyReader_close.b .nil pass0))
  (pss_one (ps_ret (pv 2))))))), ?_⟩
    have A : Adv0 G H G H := .refl sG
    have l3 := putS_le (n := es.length) (by omega)
    have w1 : eB es = [] ++ putS es.length ++ es.flatMap enB := by simp [eB]
    have w2 : eB es = putS es.length ++ es.flatMap enB := rfl
    generalize eB es = bs at hb w1 w2
    walk_at "sp"
    refine mk_br A fun o dx H1 A1 co fo _ => ?_
    walk_at "sp"
    refine ⟨line_le (by walk_at "sp om"), S_newM A1 fun l H2 A2 cl fl mm => ?_⟩
    obtain ⟨co, nlo⟩ := mm _ _ co
    clear mm
    walk_at "sp"
    refine br_number es.length 0 100 [] _ A2 co (A2.gg _ _ hb) w1 rfl (by omega) (by omega) (by omega) (by decide) fun G3 H3 A3 co g3 mm => ?_
    have cl := mm _ _ cl (Ne.symm nlo)
    clear mm
    walk_at "sp"
    refine S_rn1 (k := es.length) rfl (by omega) (S_forR (fun i σ H1 => ∃ (x3 x4 x5 : Option V) (G1 : Hp) (vs : List V), σ = [some (.ref b), some (.ref o), some (.ref l), x3, x4, x5] ∧ Adv0 G H G1 H1 ∧
      Cl No H G1 H1 o (brO K b dx (putS es.length ++ (es.take i).flatMap enB).length) ∧ Cl No H G1 H1 l (.lst vs) ∧ RpL G1 vs ((es.take i).map EntD)) ⟨none, none, none, G3, [], rfl, A3, by rw [show putS es.length ++ (es.take 0).flatMap enB = [] ++ putS es.length by simp]; exact co, cl, .nil⟩ ?_ ?_)
    · rintro i σ H1 hi ⟨x3, x4, x5, G1, vs, rfl, A1, co, cl, rl⟩
      have hri : es[i]? = some (es[i]'hi) := List.getElem?_eq_getElem hi
      have okr := hok _ (List.getElem_mem hi)
      generalize es[i]'hi = e at hri okr
      have k1 := okr.track
      have k2 := okr.time
      have k3 := okr.off
      have ll : ((es.take i).flatMap enB).length ≤ 18 * (es.take i).length := flat_len fun t ht => enB_len (hok t (List.mem_of_mem_take ht)).s
      rw [List.length_take] at ll
      have m1 := putS_le (n := e.1) (by omega)
      have m2 := putS_le (n := e.2.1) (by omega)
      have m3 := putS_le (n := e.2.2) (by omega)
      have u1 : bs = (putS es.length ++ (es.take i).flatMap enB) ++ putS e.1 ++ (putS e.2.1 ++ putS e.2.2 ++ (es.drop (i + 1)).flatMap enB) := by
        rw [w2, flat_cut hri]
        simp [enB]
      have u2 : bs = (putS es.length ++ (es.take i).flatMap enB ++ putS e.1) ++ putS e.2.1 ++ (putS e.2.2 ++ (es.drop (i + 1)).flatMap enB) := by
        rw [u1]
        simp
      have u3 : bs = (putS es.length ++ (es.take i).flatMap enB ++ putS e.1 ++ putS e.2.1) ++ putS e.2.2 ++ (es.drop (i + 1)).flatMap enB := by
        rw [u1]
        simp
      have nlo : l ≠ o := cl.ne co (fun z => nomatch z)
      have lvs := rl.len
      rw [List.length_map, List.length_take] at lvs
      walk_at "sp"
      refine br_number e.1 0 15 _ _ A1 co (A1.gg _ _ hb) u1 rfl (by omega) (by omega) (by omega) (by walk_at "sp om") fun G2 H2 A2 co g2 mm => ?_
      have cl := mm _ _ cl nlo
      clear mm
      walk_at "sp"
      refine br_number e.2.1 0 1099511627775 _ _ A2 co (A2.gg _ _ hb) u2 rfl (by omega) (by omega) (by omega) (by walk_at "sp om") fun G3 H3 A3 co g3 mm => ?_
      have cl := mm _ _ cl nlo
      clear mm
      walk_at "sp"
      refine br_number e.2.2 0 1099511627775 _ _ A3 co (A3.gg _ _ hb) u3 rfl (by omega) (by omega) (by omega) (by walk_at "sp om") fun G4 H4 A4 co g4 mm => ?_
      have cl := mm _ _ cl nlo
      clear mm
      walk_at "sp"
      refine ⟨line_le (by walk_at "sp om"), S_newF A4 fun p5 G5 H5 A5 g5 hp5 mm => ?_⟩
      have cl := mm _ _ cl
      have co := mm _ _ co
      clear mm
      walk_at "sp"
      refine S_app' A5 cl (by omega) fun H6 A6 cl mm => ?_
      have co := mm _ _ co (Ne.symm nlo)
      refine ⟨_, _, _, G5, _, rfl, A6, ?_, cl, ?_⟩
      · rw [flat_snoc hri]
        have : putS es.length ++ ((es.take i).flatMap enB ++ enB e) = putS es.length ++ (es.take i).flatMap enB ++ putS e.1 ++ putS e.2.1 ++ putS e.2.2 := by simp [enB]
        rw [this]
        exact co
      · rw [take_snoc hri, List.map_append]
        exact (rl.mono ((g2.trans g3).trans (g4.trans g5))).snoc (.tup hp5 (.cons (.int _) (.cons (.int _) (.cons (.int _) .nil))))
    · rintro σ H1 ⟨x3, x4, x5, G1, vs, rfl, A1, co, cl, rl⟩
      rw [List.take_length] at co rl
      walk_at "sp"
      refine br_close A1 co (A1.gg _ _ hb) (by rw [w2]) ?_
      walk_at "sp"
      exact q _ _ _ (A1.still fl cl.h cl.g) (.lst upd_same (rl.mono (same_new cl.g)))
def sp_read_end : Sp := fun vs H Q _ => ∃ (G : Hp) (r : V) (c t : Nat), Same G H ∧ vs = [r] ∧ Rp G r (IntsD (putS c ++ fourB t)) ∧ c ≤ 4294967295 ∧ t < 2 ^ 32 ∧ Post G H Q fun v G' => Rp G' v (.tuple [.int c, .int t])
theorem sc_read_end : FnScope n_read_end p_read_end (defScope s_read_end) := ⟨rfl, rfl, rfl, by decide +kernel, rfl, by decide +kernel, by decide +kernel⟩
theorem ok_read_end (T : Facts K mg) : FnOk P w K mg base CX0 3 (fA K "read_end") (fD K "read_end") p_read_end sp_read_end := by
  refine T.read_end.F.ok sc_read_end (fun vs H Q E h => ?_) (fun cdv A outer s H vs Q E hr h => ?_)
  · obtain ⟨G, r, c, t, _, rfl, _⟩ := h
    rfl
  · obtain ⟨G, r, c, t, sG, rfl, hr0, hc, ht, q⟩ := h
    obtain ⟨b, rfl, hb⟩ := hr0.ints
    refine ⟨_, PSs.nox (pss_cons (ps_set (i := 1) sc_read_end.nd rfl (.inl rfl) (pe_make T.mk_BodyReader (ok_BodyReader_init T) (hr.mono (by decide)) (by rfl) T.g_BodyReader T.BodyReader_init.b .nil pass0 (pa_cons (pv 0) pa_nil)))
  (pss_cons (ps_set (i := 2) sc_read_end.nd rfl (.inl rfl) (pe_meth (pv 1) T.cl_BodyReader T.m_BodyReader_number (ok_BodyReader_number T) (hr.mono (by decide)) T.BodyReader_number.b .nil pass0 (pa_cons pe_int (pa_cons (pe_gi rfl T.g_MOST_LEAVES) pa_nil))))
  (pss_cons (ps_set (i := 3) sc_read_end.nd rfl (.inl rfl) (pe_call (ok_number_of T) (hr.mono (by decide)) (by rfl) T.number_of.g T.number_of.kp T.number_of.b .nil pass0 (pa_cons (pe_meth (pv 1) T.cl_BodyReader T.m_BodyReader_take (ok_BodyReader_take T) (hr.mono (by decide)) T.BodyReader_take.b .nil pass0 (pa_cons pe_int pa_nil)) pa_nil)))
  (pss_cons (ps_expr (pe_meth0 (pv 1) T.cl_BodyReader T.m_BodyReader_close (ok_BodyReader_close T) (hr.mono (by decide)) T.BodyReader_close.b .nil pass0))
  (pss_one (ps_ret (pe_tup (pa_cons (pv 2) (pa_cons (pv 3) pa_nil))))))))), ?_⟩
    have A : Adv0 G H G H := .refl sG
    have l1 := putS_le (n := c) (by omega)
    have w1 : putS c ++ fourB t = [] ++ putS c ++ fourB t := rfl
    have w2 : putS c ++ fourB t = putS c ++ fourB t ++ [] := by simp
    have w3 : putS c ++ fourB t = putS c ++ fourB t := rfl
    generalize hbs : putS c ++ fourB t = bs at hb
    rw [hbs] at w1 w2
    walk_at "sp"
    refine mk_br A fun o dx H1 A1 co fo _ => ?_
    walk_at "sp"
    refine br_number c 0 4294967295 [] _ A1 co (A1.gg _ _ hb) w1 rfl (by omega) (by omega) (by omega) (by decide) fun G3 H3 A3 co g3 mm => ?_
    walk_at "sp"
    refine br_take 4 (putS c) (fourB t) [] A3 co (A3.gg _ _ hb) (by rw [← hbs]; simp) rfl rfl fun a G4 H4 A4 co g4 ha mm => ?_
    walk_at "sp"
    refine ⟨G4, .ref a, t, A4.gh, rfl, rp_ints ha, ht, ?_⟩
    walk_at "sp"
    refine br_close A4 co (A4.gg _ _ hb) (by rw [← hbs]) ?_
    walk_at "sp"
    refine ⟨line_le (by walk_at "sp om"), S_newF A4 fun p5 G5 H5 A5 g5 hp5 mm => ?_⟩
    exact q _ _ _ A5 (.tup hp5 (.cons (.int _) (.cons (.int _) .nil)))
def sp_read_content : Sp := fun vs H Q _ => ∃ (G : Hp) (r bv : V) (u : Un) (before : List Int), Same G H ∧ vs = [r, bv] ∧ Rp G r (IntsD (encB before u)) ∧ (u.leans = false ∧ bv = .non ∨ u.leans = true ∧ Rp G bv (IntsD before)) ∧ u.content.length ≤ 200 ∧ before.length ≤ 200 ∧ Post G H Q fun v G' => Rp G' v (IntsD u.content)
theorem sc_read_content : FnScope n_read_content p_read_content (defScope s_read_content) := ⟨rfl, rfl, rfl, by decide +kernel, rfl, by decide +kernel, by decide +kernel⟩
theorem ok_read_content (T : Facts K mg) : FnOk P w K mg base CX0 4 (fA K "read_content") (fD K "read_content") p_read_content sp_read_content := by
  refine T.read_content.F.ok sc_read_content (fun vs H Q E h => ?_) (fun cdv A outer s H vs Q E hr h => ?_)
  · obtain ⟨G, r, bv, u, before, _, rfl, _⟩ := h
    rfl
  · obtain ⟨G, r, bv, u, before, sG, rfl, hr0, hc, l1, l2, q⟩ := h
    obtain ⟨b, rfl, hb⟩ := hr0.ints
    refine ⟨_, PSs.nox (pss_cons (ps_set (i := 2) sc_read_content.nd rfl (.inl rfl) (pe_callTy call_listN rfl T.z_list bi_list (pa_cons (pv 0) pa_nil)))
  (pss_cons (ps_if (pt_cmpR op_notN (pv 1) pe_non (nomark _))
    (pss_cons (ps_set (i := 3) sc_read_content.nd rfl (.inl rfl) (pe_make T.mk_BodyReader (ok_BodyReader_init T) (hr.mono (by decide)) (by rfl) T.g_BodyReader T.BodyReader_init.b .nil pass0 (pa_cons (pv 0) pa_nil)))
  (pss_cons (ps_set (i := 4) sc_read_content.nd rfl (.inl rfl) (pe_meth (pv 3) T.cl_BodyReader T.m_BodyReader_number (ok_BodyReader_number T) (hr.mono (by decide)) T.BodyReader_number.b .nil pass0 (pa_cons pe_int (pa_cons (pe_gi rfl T.g_MOST_CONTENT) pa_nil))))
  (pss_cons (ps_set (i := 5) sc_read_content.nd rfl (.inl rfl) (pe_meth (pv 3) T.cl_BodyReader T.m_BodyReader_number (ok_BodyReader_number T) (hr.mono (by decide)) T.BodyReader_number.b .nil pass0 (pa_cons pe_int (pa_cons (pe_gi rfl T.g_MOST_CONTENT) pa_nil))))
  (pss_one (ps_try_thru0 (pss_one (ps_set (i := 2) sc_read_content.nd rfl (.inl rfl) (pe_call (ok_changed T) (hr.mono (by decide)) (by rfl) T.changed.g T.changed.kp T.changed.b .nil pass0 (pa_cons (pv 1) (pa_cons (pe_tup (pa_cons (pv 4) (pa_cons (pv 5) (pa_cons (pe_slice sl_list (pv 0) (po_some (pe_fld (pv 3) rfl)) po_none) pa_nil)))) pa_nil))))))))))
    pss_nil)
  (pss_cons (ps_if (pt_cmpR op_gt (pe_callB call_len_seq rfl T.z_len bi_len (pa_cons (pv 2) pa_nil)) (pe_gi rfl T.g_MOST_CONTENT) (nomark _))
    pss_never
    pss_nil)
  (pss_one (ps_ret (pv 2)))))), ?_⟩
    have A : Adv0 G H G H := .refl sG
    walk_at "sp"
    refine S_listL (A.l hb) (S_newF A fun p1 G1 H1 A1 g1 hp1 _ => ?_)
    rcases hc with ⟨hl, rfl⟩ | ⟨hl, rbv⟩
    · have e : encB before u = u.content := by rw [encB, hl, if_neg (by decide)]
      rw [e] at hp1
      walk_at "sp"
      exact q _ _ _ A1 (rp_ints hp1)
    · obtain ⟨c, rfl, hc⟩ := rbv.ints
      have e : encB before u = putS (chF before u.content) ++ putS (chB before u.content) ++ chM before u.content := by rw [encB, hl, if_pos rfl]
      have h0 := ch_le before u.content
      have m1 := putS_le (n := chF before u.content) (by omega)
      have m2 := putS_le (n := chB before u.content) (by omega)
      have w1 : encB before u = [] ++ putS (chF before u.content) ++ (putS (chB before u.content) ++ chM before u.content) := by rw [e]; simp
      have w2 : encB before u = putS (chF before u.content) ++ putS (chB before u.content) ++ chM before u.content := e
      walk_at "sp"
      refine mk_br A1 fun o dx H2 A2 co fo _ => ?_
      walk_at "sp"
      refine br_number _ 0 200 [] _ A2 co (A2.gg _ _ hb) w1 rfl (by omega) (by omega) (by omega) (by decide) fun G3 H3 A3 co g3 mm => ?_
      walk_at "sp"
      refine br_number _ 0 200 _ _ A3 co (A3.gg _ _ hb) w2 rfl (by omega) (by omega) (by omega) (by walk_at "sp om") fun G4 H4 A4 co g4 mm => ?_
      walk_at "sp"
      refine S_slL (A4.l hb) (S_newF A4 fun p5 G5 H5 A5 g5 hp5 mm => ?_)
      rw [cut_lo (by rw [List.length_map, w2]; walk_at "sp om"), ← List.map_drop, w2] at hp5
      have e5 : (putS (chF before u.content) ++ putS (chB before u.content) ++ chM before u.content).drop (putS (chF before u.content) ++ putS (chB before u.content)).length = chM before u.content := List.drop_left
      have hp5' : G5 p5 = some (.lst ((chM before u.content).map V.int)) := by
        rw [hp5]
        exact congrArg (fun z => some (HO.lst (z.map V.int))) e5
      walk_at "sp"
      refine ⟨line_le (by walk_at "sp om"), S_newF A5 fun p6 G6 H6 A6 g6 hp6 _ => ?_⟩
      walk_at "sp"
      refine ⟨G6, .ref c, .ref p6, before, u.content, A6.gh, rfl, rp_ints (A6.gg _ _ hc), .tup hp6 (.cons (.int _) (.cons (.int _) (.cons (rp_ints (g6 _ _ hp5')) .nil))), by omega, by omega, S_postI A6 fun p7 G7 H7 A7 B7 hp7 => ?_⟩
      walk_at "sp"
      exact q _ _ _ A7 (rp_ints hp7)
end
/-! w17 -/
section
variable {P : Program} {w : World} {K : PySem.W.Frag} {mg : Str → Option Value} {base : Heap}
/-! ### a file -/
def lfB (l : Lf) : List Int := stuffL (wLeaf l) ++ [0]
def fileB (ls : List Lf) : List Int := 0 :: ls.flatMap lfB
structure Fl where
  stamp : Nat
  tk : Nat
  sk : Nat
  rows : List RowT
  tags : List TagT
  us : List Lf
  es : List EntT
def pl (F : Fl) (kind num : Nat) (body : List Int) : Lf := ⟨kind, F.stamp, num, 0, 0, 0, 0, 0, body⟩
def pre (F : Fl) : List Lf := pl F 0 0 (hB F.tk F.sk F.rows) :: if F.tags = [] then [] else [pl F 1 1 (gB F.tags)]
def lsU (F : Fl) : List Lf := pre F ++ F.us
def lsI (F : Fl) : List Lf := lsU F ++ [pl F 3 (lsU F).length (eB F.es)]
def lsE (F : Fl) : List Lf := lsI F ++ [pl F 4 (lsI F).length (putS ((lsI F).length + 1) ++ fourB (crc (fileB (lsI F))))]
def off (F : Fl) (n : Nat) : Nat := (fileB ((lsE F).take n)).length
def trk (t : Nat) (us : List Lf) : List Lf := us.filter fun l => decide (l.track = t)
structure UV (F : Fl) (i : Nat) (l : Lf) : Prop where
  kind : l.kind = 2
  stamp : l.stamp = F.stamp
  num : l.num = (pre F).length + i
  ok : LfOk l
  t0 : 1 ≤ l.track
  t1 : l.track ≤ F.rows.length
  ord : l.ord = (trk l.track (F.us.take i)).length
  span : 1 ≤ l.span
  key : l.ord = 0 → l.key = 1
  time : ∀ m, (trk l.track (F.us.take i)).getLast? = some m → m.time + m.span ≤ l.time
structure FV (F : Fl) : Prop where
  stamp : F.stamp ≤ 4294967295
  tk : 1 ≤ F.tk ∧ F.tk ≤ 90000
  sk : F.sk < 1099511627776
  rows : F.rows.length ≤ 4
  row : ∀ r ∈ F.rows, RowR r
  tagsL : F.tags.length ≤ 10
  tag : ∀ t ∈ F.tags, TagOk t
  sort : TSort F.tags
  usL : F.us.length ≤ 50
  esL : F.es.length ≤ 50
  un : ∀ i l, F.us[i]? = some l → UV F i l
  cnt : ∀ k r, F.rows[k]? = some r → (trk (k + 1) F.us).length = r.2.2
  ent : ∀ e ∈ F.es, ∃ i l, F.us[i]? = some l ∧ l.key = 1 ∧ l.ord ≠ 0 ∧ e = (l.track, l.time, off F ((pre F).length + i))
  asc : ∀ k a b, F.es[k]? = some a → F.es[k + 1]? = some b → a.2.2 < b.2.2
theorem fileB_app (a b : List Lf) : fileB (a ++ b) = fileB a ++ b.flatMap lfB := by simp [fileB]
theorem fileB_snoc (a : List Lf) (l : Lf) : fileB (a ++ [l]) = fileB a ++ lfB l := by simp [fileB]
theorem fileB_pos (a : List Lf) : 1 ≤ (fileB a).length := by simp [fileB]
theorem off_succ {F : Fl} {n : Nat} {l : Lf} (h : (lsE F)[n]? = some l) : off F (n + 1) = off F n + (lfB l).length := by
  rw [off, take_snoc h, fileB_snoc, List.length_append]
  rfl
theorem lfB_pos (l : Lf) : 2 ≤ (lfB l).length := by
  have h := List.length_pos_iff.mpr (stuffA_ne [] (wLeaf l))
  rw [lfB, List.length_append]
  show 2 ≤ (stuffL (wLeaf l)).length + 1
  have : 0 < (stuffL (wLeaf l)).length := h
  omega
theorem off_mono {F : Fl} {m n : Nat} (h : m ≤ n) : off F m ≤ off F n := by
  unfold off fileB
  rw [List.length_cons, List.length_cons]
  have : ((lsE F).take m) = ((lsE F).take n).take m := by rw [List.take_take, Nat.min_eq_left h]
  rw [this]
  conv => rhs; rw [← List.take_append_drop m ((lsE F).take n)]
  rw [List.flatMap_append, List.length_append]
  omega
theorem off_lt {F : Fl} {m n : Nat} (h : m < n) (hn : m < (lsE F).length) : off F m < off F n := by
  have h1 := off_mono (F := F) (show m + 1 ≤ n from h)
  have h2 := off_succ (F := F) (List.getElem?_eq_getElem hn)
  have h3 := lfB_pos (lsE F)[m]
  omega
theorem off_all (F : Fl) : off F (lsE F).length = (fileB (lsE F)).length := by rw [off, List.take_length]
theorem file_split {F : Fl} {n : Nat} {l : Lf} (h : (lsE F)[n]? = some l) : fileB (lsE F) = fileB ((lsE F).take n) ++ lfB l ++ ((lsE F).drop (n + 1)).flatMap lfB := by
  conv => lhs; rw [← List.take_append_drop n (lsE F), drop_cons h, fileB_app]
  simp
theorem pre_len (F : Fl) : (pre F).length = if F.tags = [] then 1 else 2 := by
  unfold pre
  split <;> rfl
theorem lsU_len (F : Fl) : (lsU F).length = (pre F).length + F.us.length := List.length_append
theorem lsI_len (F : Fl) : (lsI F).length = (pre F).length + F.us.length + 1 := by rw [lsI, List.length_append, lsU_len]; rfl
theorem lsE_len (F : Fl) : (lsE F).length = (pre F).length + F.us.length + 2 := by rw [lsE, List.length_append, lsI_len]; rfl
theorem lsE_pre {F : Fl} {n : Nat} (h : n < (pre F).length) : (lsE F)[n]? = (pre F)[n]? := by
  have h1 := lsU_len F
  have h2 := lsI_len F
  rw [lsE, List.getElem?_append_left (by omega), lsI, List.getElem?_append_left (by omega), lsU, List.getElem?_append_left h]
theorem lsE_us {F : Fl} {i : Nat} {l : Lf} (h : F.us[i]? = some l) : (lsE F)[(pre F).length + i]? = some l := by
  have hi := (List.getElem?_eq_some_iff.mp h).1
  have h1 := lsU_len F
  have h2 := lsI_len F
  rw [lsE, List.getElem?_append_left (by omega), lsI, List.getElem?_append_left (by omega), lsU, List.getElem?_append_right (by omega), Nat.add_sub_cancel_left, h]
theorem lsE_I (F : Fl) : (lsE F)[(pre F).length + F.us.length]? = some (pl F 3 (lsU F).length (eB F.es)) := by
  have h1 := lsU_len F
  have h2 := lsI_len F
  rw [lsE, List.getElem?_append_left (by omega), lsI, List.getElem?_append_right (by omega), h1, Nat.sub_self]
  rfl
theorem lsE_E (F : Fl) : (lsE F)[(pre F).length + F.us.length + 1]? = some (pl F 4 (lsI F).length (putS ((lsI F).length + 1) ++ fourB (crc (fileB (lsI F))))) := by
  have h2 := lsI_len F
  rw [lsE, List.getElem?_append_right (by omega), h2, Nat.sub_self]
  rfl
theorem pre_0 (F : Fl) : (pre F)[0]? = some (pl F 0 0 (hB F.tk F.sk F.rows)) := rfl
theorem pre_1 {F : Fl} (h : F.tags ≠ []) : (pre F)[1]? = some (pl F 1 1 (gB F.tags)) := by
  rw [pre, if_neg h]
  rfl
/-- the four kinds of leaf -/
theorem lsE_cases {F : Fl} {n : Nat} {l : Lf} (h : (lsE F)[n]? = some l) :
    (n = 0 ∧ l = pl F 0 0 (hB F.tk F.sk F.rows)) ∨ (n = 1 ∧ F.tags ≠ [] ∧ l = pl F 1 1 (gB F.tags)) ∨ (∃ i, n = (pre F).length + i ∧ F.us[i]? = some l) ∨
    (n = (pre F).length + F.us.length ∧ l = pl F 3 (lsU F).length (eB F.es)) ∨ (n = (pre F).length + F.us.length + 1 ∧ l = pl F 4 (lsI F).length (putS ((lsI F).length + 1) ++ fourB (crc (fileB (lsI F))))) := by
  have hn := (List.getElem?_eq_some_iff.mp h).1
  have hl := lsE_len F
  have hp := pre_len F
  by_cases c1 : n < (pre F).length
  · rw [lsE_pre c1] at h
    by_cases ht : F.tags = []
    · rw [if_pos ht] at hp
      obtain rfl : n = 0 := by omega
      rw [pre_0] at h
      exact .inl ⟨rfl, (Option.some.inj h).symm⟩
    · rw [if_neg ht] at hp
      by_cases z : n = 0
      · subst z
        rw [pre_0] at h
        exact .inl ⟨rfl, (Option.some.inj h).symm⟩
      · obtain rfl : n = 1 := by omega
        rw [pre_1 ht] at h
        exact .inr (.inl ⟨rfl, ht, (Option.some.inj h).symm⟩)
  · by_cases c2 : n < (pre F).length + F.us.length
    · have hi : n - (pre F).length < F.us.length := by omega
      have hu : F.us[n - (pre F).length]? = some (F.us[n - (pre F).length]'hi) := List.getElem?_eq_getElem hi
      have := lsE_us hu
      rw [show (pre F).length + (n - (pre F).length) = n by omega, h] at this
      exact .inr (.inr (.inl ⟨n - (pre F).length, by omega, by rw [hu, this]⟩))
    · by_cases c3 : n = (pre F).length + F.us.length
      · subst c3
        rw [lsE_I] at h
        exact .inr (.inr (.inr (.inl ⟨rfl, (Option.some.inj h).symm⟩)))
      · obtain rfl : n = (pre F).length + F.us.length + 1 := by omega
        rw [lsE_E] at h
        exact .inr (.inr (.inr (.inr ⟨rfl, (Option.some.inj h).symm⟩)))
theorem hB_len {F : Fl} (V : FV F) : (hB F.tk F.sk F.rows).length ≤ 901 := by
  have h1 := flat_len (f := rB) (n := 218) fun r hr => rB_len (V.row r hr).s
  have h2 := V.rows
  have h3 := V.tk
  have h4 := V.sk
  have l1 := putS_le (n := F.tk) (by omega)
  have l2 := putS_le (n := F.sk) (by omega)
  have l3 := putS_le (n := F.rows.length) (by omega)
  have l4 : (sB "spool").length = 5 := by decide +kernel
  have l5 := putS_le (n := 1) (by omega)
  rw [hB]
  simp only [List.length_append]
  omega
theorem chunk_lt {F : Fl} (V : FV F) {n : Nat} {l : Lf} (ok : LfOk l) : (wLeaf l).length ≤ 1100 := by
  have o1 := ok.track
  have o2 := ok.ord
  have o3 := ok.time
  have o4 := ok.span
  have o5 := ok.len
  have l1 := putS_le (n := l.track) (by omega)
  have l2 := putS_le (n := l.ord) (by omega)
  have l3 := putS_le (n := l.time) (by omega)
  have l4 := putS_le (n := l.span) (by omega)
  have l5 := putS_le (n := l.body.length) (by omega)
  rw [wLeaf, wBase]
  simp only [List.length_append, List.length_cons, List.length_nil, fourB]
  omega
end
/-! w18 -/
section
variable {P : Program} {w : World} {K : PySem.W.Frag} {mg : Str → Option Value} {base : Heap}
theorem Bys.flat {α : Type} {f : α → List Int} {xs : List α} (h : ∀ x ∈ xs, Bys (f x)) : Bys (xs.flatMap f) := fun b hb => by
  obtain ⟨x, hx, hb⟩ := List.mem_flatMap.mp hb
  exact h x hx b hb
theorem sB_bys {z : Str} (h : LineOk z) : Bys (sB z) := fun b hb => by
  obtain ⟨c, hc, rfl⟩ := List.mem_map.mp hb
  have := h c hc
  omega
theorem tB_bys {z : Str} (h : LineOk z) : Bys (tB z) := (putS_bys _).app (sB_bys h)
theorem spool_bys : Bys (sB "spool") := by
  unfold Bys
  decide +kernel
theorem hB_bys {F : Fl} (V : FV F) : Bys (hB F.tk F.sk F.rows) :=
  (((((spool_bys.app (putS_bys _)).app (putS_bys _)).app (putS_bys _)).app (putS_bys _)).app (Bys.flat fun r hr => ((tB_bys (V.row r hr).name).app (tB_bys (V.row r hr).kind.line)).app (putS_bys _)))
theorem gB_bys {F : Fl} (V : FV F) : Bys (gB F.tags) := (putS_bys _).app (Bys.flat fun r hr => (tB_bys (V.tag r hr).key.line).app (tB_bys (V.tag r hr).value))
theorem eB_bys (es : List EntT) : Bys (eB es) := (putS_bys _).app (Bys.flat fun _ _ => ((putS_bys _).app (putS_bys _)).app (putS_bys _))
theorem off_pos (F : Fl) (n : Nat) : 1 ≤ off F n := fileB_pos _
theorem pre_le (F : Fl) : 1 ≤ (pre F).length ∧ (pre F).length ≤ 2 := by
  rw [pre_len]
  split <;> omega
theorem lfB_len {l : Lf} (h : (wLeaf l).length ≤ 1100) : (lfB l).length ≤ 2202 := by
  have := stuffA_len (wLeaf l) []
  rw [lfB, List.length_append]
  show (stuffA [] (wLeaf l)).length + 1 ≤ 2202
  simp only [List.length_nil] at this
  omega
theorem pl_ok {F : Fl} {kind num : Nat} {body : List Int} (hk : kind ≤ 4) (hs : F.stamp ≤ 4294967295) (hn : num ≤ 4294967295) (hl : body.length ≤ 1024) (hb : Bys body) : LfOk (pl F kind num body) :=
  ⟨hk, hs, hn, Nat.zero_le _, Nat.zero_le _, Nat.zero_le _, Nat.zero_le _, Nat.zero_le _, hl, hb⟩
/-- all but the index -/
theorem ok_but {F : Fl} (V : FV F) {n : Nat} {l : Lf} (h : (lsE F)[n]? = some l) (hn : n ≠ (pre F).length + F.us.length) : LfOk l := by
  have p := pre_le F
  have u := V.usL
  have s := V.stamp
  rcases lsE_cases h with ⟨_, rfl⟩ | ⟨_, _, rfl⟩ | ⟨i, _, hu⟩ | ⟨hz, _⟩ | ⟨hz, rfl⟩
  · exact pl_ok (by decide) s (by decide) (by have := hB_len V; omega) (hB_bys V)
  · exact pl_ok (by decide) s (by decide) (by have := gB_len (fun t ht => (V.tag t ht).s) V.tagsL; omega) (gB_bys V)
  · exact (V.un i l hu).ok
  · exact absurd hz hn
  · have hi := lsI_len F
    have := putS_le (n := (lsI F).length + 1) (by omega)
    refine pl_ok (by decide) s (by omega) ?_ ((putS_bys _).app (fourB_bys _))
    rw [List.length_append]
    simp only [fourB, List.length_cons, List.length_nil]
    omega
theorem off_le {F : Fl} (V : FV F) : ∀ n, n ≤ (pre F).length + F.us.length → off F n ≤ 1 + 2202 * n
  | 0, _ => by simp [off, fileB]
  | n + 1, h => by
    have ih := off_le V n (by omega)
    have hl := lsE_len F
    have hg := List.getElem?_eq_getElem (l := lsE F) (i := n) (by omega)
    have ok := ok_but V hg (by omega)
    rw [off_succ hg]
    have := lfB_len (chunk_lt V (n := n) ok)
    omega
theorem ent_ok {F : Fl} (V : FV F) : ∀ e ∈ F.es, EntR e := fun e he => by
  obtain ⟨i, l, hu, _, _, rfl⟩ := V.ent e he
  have hi := (List.getElem?_eq_some_iff.mp hu).1
  have u := V.un i l hu
  have o1 := u.ok.track
  have o2 := u.ok.time
  have p := pre_le F
  have us := V.usL
  have := off_le V ((pre F).length + i) (by omega)
  exact ⟨o1, by show l.time < _; omega, by show off F _ < _; omega⟩
theorem lf_ok {F : Fl} (V : FV F) {n : Nat} {l : Lf} (h : (lsE F)[n]? = some l) : LfOk l := by
  by_cases hn : n = (pre F).length + F.us.length
  · subst hn
    rw [lsE_I] at h
    obtain rfl := (Option.some.inj h).symm
    have hu := lsU_len F
    have p := pre_le F
    have us := V.usL
    refine pl_ok (by decide) V.stamp (by omega) ?_ (eB_bys _)
    have := eB_len (fun e he => (ent_ok V e he).s) V.esL
    omega
  · exact ok_but V h hn
theorem off_le' {F : Fl} (V : FV F) : ∀ n, n ≤ (lsE F).length → off F n ≤ 1 + 2202 * n
  | 0, _ => by simp [off, fileB]
  | n + 1, h => by
    have ih := off_le' V n (by omega)
    have hg := List.getElem?_eq_getElem (l := lsE F) (i := n) (by omega)
    rw [off_succ hg]
    have := lfB_len (chunk_lt V (n := n) (lf_ok V hg))
    omega
theorem file_len {F : Fl} (V : FV F) : (fileB (lsE F)).length ≤ 120000 := by
  rw [← off_all]
  have := off_le' V _ (Nat.le_refl _)
  have hl := lsE_len F
  have p := pre_le F
  have us := V.usL
  omega
/-! ### the reader of leaves -/
abbrev lrO (K : PySem.W.Frag) (dx d : Addr) (at_ scan count stamp : Nat) (last : Int) (hv tv ev uv : V) (p : Addr) : HO := .ins (cA K "LeafReader") dx (fs_LeafReader (.ref d) (.int at_) (.int scan) (.int count) (.int stamp) (.int last) hv tv ev uv (.ref p))
def InO (count kind : Nat) (last : Int) : Prop := (count = 0 ∧ kind = 0) ∨ (count = 1 ∧ kind = 1) ∨ (1 ≤ count ∧ kind = 4 ∧ last = 3) ∨ (1 ≤ count ∧ (kind = 2 ∨ kind = 3) ∧ last ≠ 3)
def sp_LeafReader_is_in_order (K : PySem.W.Frag) : Sp := fun vs H Q _ => ∃ (o dx d : Addr) (a s count st : Nat) (last : Int) (hv tv ev uv : V) (p : Addr) (kind : Nat), vs = [.ref o, .int kind] ∧ H o = some (lrO K dx d a s count st last hv tv ev uv p) ∧ InO count kind last ∧ Q (.bl true) H
theorem sc_LeafReader_is_in_order : FnScope n_LeafReader_is_in_order p_LeafReader_is_in_order (defScope s_LeafReader_is_in_order) := ⟨rfl, rfl, rfl, by decide +kernel, rfl, by decide +kernel, by decide +kernel⟩
theorem ok_LeafReader_is_in_order (T : Facts K mg) : FnOk P w K mg base CX0 1 (mA K "LeafReader" "is_in_order") (mD K "LeafReader" "is_in_order") p_LeafReader_is_in_order (sp_LeafReader_is_in_order K) := by
  refine T.LeafReader_is_in_order.F.ok sc_LeafReader_is_in_order (fun vs H Q E h => ?_) (fun cdv A outer s H vs Q E hr h => ?_)
  · obtain ⟨o, dx, d, a, s, count, st, last, hv, tv, ev, uv, p, kind, rfl, _⟩ := h
    rfl
  · obtain ⟨o, dx, d, a, s, count, st, last, hv, tv, ev, uv, p, kind, rfl, ho, hin, q⟩ := h
    refine ⟨_, PSs.nox (pss_cons (ps_if (PW.pt (pw_or (pt_cmpR op_eq (pe_fld (pv 0) rfl) pe_int (nomark _)) (pw_or1 (pt_cmpR op_eq (pv 1) (pe_gi rfl T.g_HEAD) (nomark _)))))
    (pss_one (ps_ret (pe_and (pe_cmpR op_eq (pe_fld (pv 0) rfl) pe_int (nomark _)) (pe_one (pe_cmpR op_eq (pv 1) (pe_gi rfl T.g_HEAD) (nomark _))))))
    pss_nil)
  (pss_cons (ps_if (pt_cmpR op_eq (pv 1) (pe_gi rfl T.g_TAGS) (nomark _))
    (pss_one (ps_ret (pe_cmpR op_eq (pe_fld (pv 0) rfl) pe_int (nomark _))))
    pss_nil)
  (pss_cons (ps_if (pt_cmpR op_eq (pv 1) (pe_gi rfl T.g_END) (nomark _))
    (pss_one (ps_ret (pe_cmpR op_eq (pe_fld (pv 0) rfl) (pe_gi rfl T.g_INDEX) (nomark _))))
    pss_nil)
  (pss_one (ps_ret (pe_cmpR op_ne (pe_fld (pv 0) rfl) (pe_gi rfl T.g_INDEX) (nomark _))))))), ?_⟩
    have co : Cl (· = o) H (fun _ => none) H o _ := ⟨.inl rfl, rfl, ho⟩
    rcases hin with ⟨rfl, rfl⟩ | ⟨rfl, rfl⟩ | ⟨h1, rfl, rfl⟩ | ⟨h1, h2, h3⟩
    · walk_at "sp"
      rw [show decide (((0 : Nat) : Int) = 0) = true from rfl]
      exact q
    · walk_at "sp"
      rw [show decide (((1 : Nat) : Int) = 1) = true from rfl]
      exact q
    · walk_at "sp"
      rw [show decide ((3 : Int) = 3) = true from rfl]
      exact q
    · rcases h2 with rfl | rfl
      · walk_at "sp"
        rw [show (!decide (last = 3)) = true by simp [h3]]
        exact q
      · walk_at "sp"
        rw [show (!decide (last = 3)) = true by simp [h3]]
        exact q
def trkV (F : Fl) (m k : Nat) : List Lf := trk (k + 1) (F.us.take (m - (pre F).length))
/-- what a reader that has looked at m leaves of the file knows -/
structure Ph (F : Fl) (m : Nat) (G H : Hp) (hv tv ev uv : V) (p : Addr) (cs : List Addr) : Prop where
  hd : 1 ≤ m → Rp G hv (HeadD F.tk F.sk F.rows)
  tg : Rp G tv (.list ((if 2 ≤ m then F.tags else []).map TagD))
  en : Rp G ev (.list ((if (pre F).length + F.us.length + 1 ≤ m then F.es else []).map EntD))
  un : 1 ≤ m → ∃ ul, uv = .ref ul ∧ G ul = some (.lst (cs.map V.ref))
  len : cs.length = if m = 0 then 0 else F.rows.length
  cell : ∀ k c, cs[k]? = some c → ∃ vs, G c = none ∧ H c = some (.lst vs) ∧ RpL G vs ((trkV F m k).map LfD)
  nd : cs.Nodup
  dict : ∃ kvs, G p = none ∧ H p = some (.dK kvs) ∧ kvs.length ≤ m ∧ ∀ i l, i + (pre F).length < m → F.us[i]? = some l → l.key = 1 → l.ord ≠ 0 → ∃ t, valV kvs (.inl ((off F ((pre F).length + i) : Nat) : Int)) = some t ∧ Rp G t (.tuple [.int l.track, .int l.time])
/-- heaps go on and leave the reader as it is -/
theorem Ph.mono {F : Fl} {m : Nat} {G H G' H' : Hp} {hv tv ev uv : V} {p : Addr} {cs : List Addr} (h : Ph F m G H hv tv ev uv p cs) {M : Addr → Prop} (A : Adv M G H G' H') (hp : ¬ M p) (hc : ∀ c ∈ cs, ¬ M c) : Ph F m G' H' hv tv ev uv p cs := by
  refine ⟨fun z => (h.hd z).mono A.gg, h.tg.mono A.gg, h.en.mono A.gg, fun z => ?_, h.len, fun k c hk => ?_, h.nd, ?_⟩
  · obtain ⟨ul, e, hu⟩ := h.un z
    exact ⟨ul, e, A.gg _ _ hu⟩
  · obtain ⟨vs, g, hh, r⟩ := h.cell k c hk
    exact ⟨vs, A.nw c g (by rw [hh]; exact fun z => nomatch z), A.kp c _ (hc c (List.mem_of_getElem? hk)) hh, r.mono A.gg⟩
  · obtain ⟨kvs, g, hh, l, r⟩ := h.dict
    refine ⟨kvs, A.nw p g (by rw [hh]; exact fun z => nomatch z), A.kp p _ hp hh, l, fun i u h1 h2 h3 h4 => ?_⟩
    obtain ⟨t, e, rt⟩ := r i u h1 h2 h3 h4
    exact ⟨t, e, rt.mono A.gg⟩
def sp_LeafReader_check_entries (K : PySem.W.Frag) : Sp := fun vs H Q _ => ∃ (F : Fl) (G : Hp) (o dx d : Addr) (a s count st : Nat) (last : Int) (hv tv ev uv : V) (p : Addr) (cs : List Addr), Same G H ∧ vs = [.ref o] ∧ FV F ∧ H o = some (lrO K dx d a s count st last hv tv ev uv p) ∧ G o = none ∧
  Ph F ((pre F).length + F.us.length + 1) G H hv tv ev uv p cs ∧ (∀ G' H', Adv0 G H G' H' → Q .non H')
theorem sc_LeafReader_check_entries : FnScope n_LeafReader_check_entries p_LeafReader_check_entries (defScope s_LeafReader_check_entries) := ⟨rfl, rfl, rfl, by decide +kernel, rfl, by decide +kernel, by decide +kernel⟩
theorem ok_LeafReader_check_entries (T : Facts K mg) : FnOk P w K mg base CX0 1 (mA K "LeafReader" "check_entries") (mD K "LeafReader" "check_entries") p_LeafReader_check_entries (sp_LeafReader_check_entries K) := by
  refine T.LeafReader_check_entries.F.ok sc_LeafReader_check_entries (fun vs H Q E h => ?_) (fun cdv A outer s H vs Q E hr h => ?_)
  · obtain ⟨F, G, o, dx, d, a, s, count, st, last, hv, tv, ev, uv, p, cs, _, rfl, _⟩ := h
    rfl
  · obtain ⟨F, G, o, dx, d, a, s, count, st, last, hv, tv, ev, uv, p, cs, sG, rfl, fv, ho, go, ph, q⟩ := h
    refine ⟨_, PSs.nox (pss_cons (ps_set (i := 1) sc_LeafReader_check_entries.nd rfl (.inl rfl) pe_int)
  (pss_one (ps_for PassesOwn.never rfl (pi_list (pe_fld (pv 0) rfl)) (pg_tup rfl (pgs_cons (pg_name (i := 2) sc_LeafReader_check_entries.nd rfl (.inl rfl)) (pgs_cons (pg_name (i := 3) sc_LeafReader_check_entries.nd rfl (.inl rfl)) (pgs_cons (pg_name (i := 4) sc_LeafReader_check_entries.nd rfl (.inl rfl)) pgs_nil))))
    (pss_cons (ps_if (PW.pt (pw_or (pt_cmpR op_le (pv 4) (pv 1) (nomark _)) (pw_or1 (pt_cmpR (op_neD hr.units) (pe_dget1 (hu1_of hr) (pe_fld (pv 0) rfl) (pv 4) ⟨rfl, rfl, rfl, rfl⟩) (pe_tup (pa_cons (pv 2) (pa_cons (pv 3) pa_nil))) (nomark _)))))
    pss_never
    pss_nil)
  (pss_one (ps_set (i := 1) sc_LeafReader_check_entries.nd rfl (.inl rfl) (pv 4))))))), ?_⟩
    have A : Adv (fun x => x = o ∨ x = p) G H G H := .refl sG
    have co : Cl (fun x => x = o ∨ x = p) H G H o _ := ⟨.inl (.inl rfl), go, ho⟩
    have hen := ph.en
    rw [if_pos (Nat.le_refl _)] at hen
    obtain ⟨e, xs, rfl, he, hx⟩ := hen.list
    obtain ⟨kvs, gp, hp, lk, hk⟩ := ph.dict
    have lx : xs.length = F.es.length := by rw [hx.len, List.length_map]
    walk_at "sp"
    refine S_forL (xs := xs) (fun i σ H1 => ∃ (before : Nat) (x2 x3 x4 : Option V) (G1 : Hp), σ = [some (.ref o), some (.int before), x2, x3, x4] ∧ Adv0 G H G1 H1 ∧ (∀ e, F.es[i]? = some e → before < e.2.2)) ⟨0, none, none, none, G, rfl, .refl sG, fun e he => ?_⟩ (fun i σ H1 _ ⟨_, _, _, _, G1, _, A1, _⟩ => A1.l he) ?_ ?_
    · obtain ⟨i, l, _, _, _, rfl⟩ := fv.ent e (List.mem_of_getElem? he)
      exact off_pos _ _
    · rintro i x σ H1 hxi ⟨before, x2, x3, x4, G1, rfl, A1, hb⟩
      obtain ⟨de, hd, rx⟩ := hx.getV hxi
      obtain ⟨en, hen, rfl⟩ := get_map_inv hd
      obtain ⟨j, l, hj, h1, h2, hee⟩ := fv.ent en (List.mem_of_getElem? hen)
      have hlt := hb en hen
      obtain ⟨t, ys, rfl, hty, rl⟩ := rx.tuple
      rcases rl with _ | ⟨⟨⟩, _ | ⟨⟨⟩, _ | ⟨⟨⟩, _ | _⟩⟩⟩
      obtain ⟨tt, ht, rt⟩ := hk j l (by have := (List.getElem?_eq_some_iff.mp hj).1; omega) hj h1 h2
      have co1 : Cl (fun x => x = o ∨ x = p) H G1 H1 o _ := co.call A1
      have hp1 : H1 p = some (.dK kvs) := A1.kp p _ (fun z => z) hp
      have B1 : Adv0 G H G1 H1 := A1
      have eoff : en.2.2 = off F ((pre F).length + j) := by rw [hee]
      have etr : en.1 = l.track := by rw [hee]
      have eti : en.2.1 = l.time := by rw [hee]
      walk_at "sp"
      refine S_isd hp1 ?_
      walk_at "sp"
      refine S_dgk (o := some tt) hp1 (by rw [eoff]; exact ht) ?_
      walk_at "sp"
      refine ⟨line_le (by simp), S_newF A1 fun p2 G2 H2 A2 g2 hp2 mm => ?_⟩
      refine ⟨_, _, (rt.mono A2.gg).dp A2.gh, (Rp.tup (ds := [.int l.track, .int l.time]) hp2 (.cons (by rw [etr]; exact .int _) (.cons (by rw [eti]; exact .int _) .nil))).dp A2.gh, (Shp.tup (n := 0) (shp_cons (.int _ _) (shp_cons (.int _ _) shp_nil))).shaped (by decide), (Shp.tup (n := 0) (shp_cons (.int _ _) (shp_cons (.int _ _) shp_nil))).shaped (by decide), ?_⟩
      rw [(Shp.tup (n := 0) (shp_cons (.int _ _) (shp_cons (.int _ _) shp_nil))).eqv]
      walk_at "sp"
      refine ⟨en.2.2, _, _, _, G2, rfl, A2, fun e' he' => fv.asc i en e' hen he'⟩
    · rintro σ H1 ⟨before, x2, x3, x4, G1, rfl, A1, hb⟩
      walk_at "sp"
      exact q _ _ A1
end
/-! w19 -/
section
variable {P : Program} {w : World} {K : PySem.W.Frag} {mg : Str → Option Value} {base : Heap}
theorem Rp.hd3 {G : Hp} {v : V} {F : Fl} (h : Rp G v (HeadD F.tk F.sk F.rows)) : ∃ a r xs, v = .ref a ∧ G a = some (.tup [.int F.tk, .int F.sk, .ref r]) ∧ G r = some (.lst xs) ∧ RpL G xs (F.rows.map RowD) := by
  obtain ⟨a, ys, rfl, ha, rl⟩ := h.tuple
  rcases rl with _ | ⟨⟨⟩, _ | ⟨⟨⟩, _ | ⟨r, _ | _⟩⟩⟩
  obtain ⟨b, xs, rfl, hb, hx⟩ := r.list
  exact ⟨a, b, xs, rfl, ha, hb, hx⟩
theorem Rp.row {G : Hp} {v : V} {r : RowT} (h : Rp G v (RowD r)) : ∃ a, v = .ref a ∧ G a = some (.tup [.str r.1, .str r.2.1, .int r.2.2]) := by
  obtain ⟨a, ys, rfl, ha, rl⟩ := h.tuple
  rcases rl with _ | ⟨⟨⟩, _ | ⟨⟨⟩, _ | ⟨⟨⟩, _ | _⟩⟩⟩
  exact ⟨a, rfl, ha⟩
theorem take_all {F : Fl} {m : Nat} (h : (pre F).length + F.us.length ≤ m) : F.us.take (m - (pre F).length) = F.us := List.take_of_length_le (by omega)
def sp_LeafReader_check_end (K : PySem.W.Frag) : Sp := fun vs H Q _ => ∃ (F : Fl) (G : Hp) (o dx d : Addr) (s st : Nat) (last : Int) (hv tv ev uv : V) (p : Addr) (cs : List Addr) (m : Nat), Same G H ∧ vs = [.ref o, .int (((lsI F).length + 1 : Nat) : Int), .int (crc (fileB (lsI F)))] ∧ FV F ∧
  H o = some (lrO K dx d (off F (lsI F).length) s (lsI F).length st last hv tv ev uv p) ∧ G o = none ∧ G d = some (.lst ((fileB (lsE F)).map V.int)) ∧ (pre F).length + F.us.length ≤ m ∧ Ph F m G H hv tv ev uv p cs ∧ (∀ G' H', Adv0 G H G' H' → Q .non H')
theorem lfB_bys {l : Lf} (ok : LfOk l) : Bys (lfB l) := by
  have h1 := wBase_bys ok
  have h2 : Bys (wLeaf l) := h1.app (fourB_bys _)
  have h3 := stuffA_byte (wLeaf l) [] h2 (fun _ z => nomatch z) (by simp)
  intro b hb
  rcases List.mem_append.mp hb with hb | hb
  · have := h3 b hb
    omega
  · rw [List.mem_singleton.mp hb]
    omega
theorem fileB_bys {ls : List Lf} (h : ∀ l ∈ ls, LfOk l) : Bys (fileB ls) := by
  intro b hb
  rcases List.mem_cons.mp hb with rfl | hb
  · omega
  · exact Bys.flat (fun l hl => lfB_bys (h l hl)) b hb
theorem lsI_take (F : Fl) : (lsE F).take (lsI F).length = lsI F := by rw [lsE, List.take_left]
theorem ok_all {F : Fl} (V : FV F) : ∀ l ∈ lsE F, LfOk l := fun l hl => by
  obtain ⟨n, hn⟩ := List.mem_iff_getElem?.mp hl
  exact lf_ok V hn
theorem sc_LeafReader_check_end : FnScope n_LeafReader_check_end p_LeafReader_check_end (defScope s_LeafReader_check_end) := ⟨rfl, rfl, rfl, by decide +kernel, rfl, by decide +kernel, by decide +kernel⟩
theorem ok_LeafReader_check_end (T : Facts K mg) : FnOk P w K mg base CX0 2 (mA K "LeafReader" "check_end") (mD K "LeafReader" "check_end") p_LeafReader_check_end (sp_LeafReader_check_end K) := by
  refine T.LeafReader_check_end.F.ok sc_LeafReader_check_end (fun vs H Q E h => ?_) (fun cdv A outer s H vs Q E hr h => ?_)
  · obtain ⟨F, G, o, dx, d, s, st, last, hv, tv, ev, uv, p, cs, m, _, rfl, _⟩ := h
    rfl
  · obtain ⟨F, G, o, dx, d, s, st, last, hv, tv, ev, uv, p, cs, m, sG, rfl, fv, ho, go, hd, hm, ph, q⟩ := h
    refine ⟨_, PSs.nox (pss_cons (ps_if (pt_cmpR op_ne (pv 1) (pe_op op_add (pe_fld (pv 0) rfl) pe_int) (nomark _))
    pss_never
    pss_nil)
  (pss_cons (ps_if (pt_cmpR op_ne (pv 2) (pe_call (ok_checksum T) (hr.mono (by decide)) (by rfl) T.checksum.g T.checksum.kp T.checksum.b .nil pass0 (pa_cons (pe_slice sl_list (pe_fld (pv 0) rfl) po_none (po_some (pe_fld (pv 0) rfl))) pa_nil)) (nomark _))
    pss_never
    pss_nil)
  (pss_one (ps_for PassesOwn.never rfl (pi_range1 rfl T.z_range (pa_cons (pe_callB call_len_seq rfl T.z_len bi_len (pa_cons (pe_fld (pv 0) rfl) pa_nil)) pa_nil)) (pg_name (i := 3) sc_LeafReader_check_end.nd rfl (.inl rfl))
    (pss_one (ps_if (pt_cmpR op_lt (pe_callB call_len_seq rfl T.z_len bi_len (pa_cons (pe_ix ix_list (pe_fld (pv 0) rfl) (pv 3) (fun _ _ => rfl)) pa_nil)) (pe_ix ix_tup (pe_ix ix_list (pe_ix ix_tup (pe_fld (pv 0) rfl) pe_int (fun _ _ => rfl)) (pv 3) (fun _ _ => rfl)) pe_int (fun _ _ => rfl)) (nomark _))
    pss_never
    pss_nil)))))), ?_⟩
    have A : Adv (fun x => x = o ∨ x = p) G H G H := .refl sG
    have co : Cl (fun x => x = o ∨ x = p) H G H o _ := ⟨.inl (.inl rfl), go, ho⟩
    have p1 := pre_le F
    obtain ⟨a, r, xs, rfl, ha, hr', hx⟩ := (ph.hd (by omega)).hd3
    obtain ⟨ul, rfl, hul⟩ := ph.un (by omega)
    have lcs := ph.len
    rw [if_neg (by omega)] at lcs
    have fl := file_len fv
    have lo : off F (lsI F).length ≤ (fileB (lsE F)).length := by
      rw [← off_all]
      exact off_mono (by rw [lsE, List.length_append]; omega)
    have hcut : cutV ((fileB (lsE F)).map V.int) none (some ((off F (lsI F).length : Nat) : Int)) = (fileB (lsI F)).map V.int := by
      rw [cut_hi (by rw [List.length_map]; exact lo), ← List.map_take]
      congr 1
      have e1 : off F (lsI F).length = (fileB (lsI F)).length := by rw [off, lsI_take]
      rw [e1, lsE, fileB_app, List.take_left]
    walk_at "sp"
    refine S_slL (A.l hd) (S_newF (M := No) (G0 := G) (H0 := H) (.refl sG) fun p2 G2 H2 A2 g2 hp2 _ => ?_)
    rw [hcut] at hp2
    walk_at "sp"
    refine ⟨G2, .ref p2, fileB (lsI F), A2.gh, rfl, rp_ints hp2, fileB_bys fun l hl => ok_all fv l (by rw [lsE]; exact List.mem_append_left _ hl), ?_⟩
    have co2 : Cl (fun x => x = o ∨ x = p) H G2 H2 o _ := co.call A2
    walk_at "sp"
    refine S_rn1 (k := F.rows.length) (by rw [List.length_map, lcs]) (by have := fv.rows; omega) (S_forR (fun i σ H1 => ∃ x3, σ = [some (.ref o), some (.int (((lsI F).length + 1 : Nat) : Int)), some (.int (crc (fileB (lsI F)))), x3] ∧ H2 = H1) ⟨none, rfl, rfl⟩ ?_ ?_)
    · rintro i σ H1 hi ⟨x3, rfl, rfl⟩
      have hci : cs[i]? = some (cs[i]'(by omega)) := List.getElem?_eq_getElem (by omega)
      generalize cs[i]'(by omega) = c at hci
      have hri : F.rows[i]? = some (F.rows[i]'hi) := List.getElem?_eq_getElem hi
      generalize F.rows[i]'hi = row at hri
      obtain ⟨vs, gc, hc, rc⟩ := ph.cell i c hci
      have hc2 := A2.kp c _ (fun z => z) hc
      obtain ⟨v, hv, rv⟩ := hx.get (get_map hri)
      obtain ⟨b, rfl, hb⟩ := rv.row
      have hlen : vs.length = row.2.2 := by
        rw [rc.len, List.length_map, trkV, take_all hm]
        exact fv.cnt i row hri
      walk_at "sp"
      refine S_ixL (A2.l hul) (atI_n (Int.zero_add _) (get_map hci)) ?_
      walk_at "sp"
      refine S_lenL (SqL.of hc2) ?_
      walk_at "sp"
      refine S_ixL (A2.l hr') (atI_n (Int.zero_add _) hv) ?_
      walk_at "sp"
      exact ⟨_, rfl, rfl⟩
    · rintro σ H1 ⟨x3, rfl, rfl⟩
      walk_at "sp"
      exact q _ _ A2
theorem trk_snoc {t : Nat} {us : List Lf} {l : Lf} : trk t (us ++ [l]) = trk t us ++ if l.track = t then [l] else [] := by
  rw [trk, List.filter_append]
  by_cases h : l.track = t
  · rw [if_pos h]
    simp [trk, h]
  · rw [if_neg h]
    simp [trk, h]
def sp_LeafReader_check_unit (K : PySem.W.Frag) : Sp := fun vs H Q _ => ∃ (F : Fl) (i : Nat) (l : Lf) (G : Hp) (o dx d : Addr) (r : V) (s count st : Nat) (last : Int) (hv tv ev uv : V) (p : Addr) (cs : List Addr), Same G H ∧ vs = [.ref o, r] ∧ FV F ∧ F.us[i]? = some l ∧ Rp G r (LfD l) ∧
  H o = some (lrO K dx d (off F ((pre F).length + i)) s count st last hv tv ev uv p) ∧ G o = none ∧ o ∉ cs ∧ Ph F ((pre F).length + i) G H hv tv ev uv p cs ∧
  (∀ G' H', Adv (fun q => q = p ∨ q ∈ cs) G H G' H' → Ph F ((pre F).length + i + 1) G' H' hv tv ev uv p cs → Q .non H')
theorem sc_LeafReader_check_unit : FnScope n_LeafReader_check_unit p_LeafReader_check_unit (defScope s_LeafReader_check_unit) := ⟨rfl, rfl, rfl, by decide +kernel, rfl, by decide +kernel, by decide +kernel⟩
theorem ok_LeafReader_check_unit (T : Facts K mg) : FnOk P w K mg base CX0 1 (mA K "LeafReader" "check_unit") (mD K "LeafReader" "check_unit") p_LeafReader_check_unit (sp_LeafReader_check_unit K) := by
  refine T.LeafReader_check_unit.F.ok sc_LeafReader_check_unit (fun vs H Q E h => ?_) (fun cdv A outer s H vs Q E hr h => ?_)
  · obtain ⟨F, i, l, G, o, dx, d, r, s, count, st, last, hv, tv, ev, uv, p, cs, _, rfl, _⟩ := h
    rfl
  · obtain ⟨F, i, l, G, o, dx, d, r, s, count, st, last, hv, tv, ev, uv, p, cs, sG, rfl, fv, hl, hr0, ho, go, nocs, ph, q⟩ := h
    refine ⟨_, PSs.nox (pss_cons (ps_asg (pv 1) (pg_tup rfl (pgs_cons (pg_name (i := 2) sc_LeafReader_check_unit.nd rfl (.inl rfl)) (pgs_cons (pg_name (i := 2) sc_LeafReader_check_unit.nd rfl (.inl rfl)) (pgs_cons (pg_name (i := 2) sc_LeafReader_check_unit.nd rfl (.inl rfl)) (pgs_cons (pg_name (i := 3) sc_LeafReader_check_unit.nd rfl (.inl rfl)) (pgs_cons (pg_name (i := 4) sc_LeafReader_check_unit.nd rfl (.inl rfl)) (pgs_cons (pg_name (i := 5) sc_LeafReader_check_unit.nd rfl (.inl rfl)) (pgs_cons (pg_name (i := 6) sc_LeafReader_check_unit.nd rfl (.inl rfl)) (pgs_cons (pg_name (i := 7) sc_LeafReader_check_unit.nd rfl (.inl rfl)) (pgs_cons (pg_name (i := 2) sc_LeafReader_check_unit.nd rfl (.inl rfl)) pgs_nil)))))))))))
  (pss_cons (ps_if (PW.pt (pw_or (pt_cmpR op_eq (pv 3) pe_int (nomark _)) (pw_or1 (pt_cmpR op_gt (pv 3) (pe_callB call_len_seq rfl T.z_len bi_len (pa_cons (pe_fld (pv 0) rfl) pa_nil)) (nomark _)))))
    pss_never
    pss_nil)
  (pss_cons (ps_set (i := 8) sc_LeafReader_check_unit.nd rfl (.inl rfl) (pe_ix ix_list (pe_fld (pv 0) rfl) (pe_op op_sub (pv 3) pe_int) (fun _ _ => rfl)))
  (pss_cons (ps_if (pt_cmpR op_eq (pe_callB call_len_seq rfl T.z_len bi_len (pa_cons (pv 8) pa_nil)) (pe_ix ix_tup (pe_ix ix_list (pe_ix ix_tup (pe_fld (pv 0) rfl) pe_int (fun _ _ => rfl)) (pe_op op_sub (pv 3) pe_int) (fun _ _ => rfl)) pe_int (fun _ _ => rfl)) (nomark _))
    pss_never
    pss_nil)
  (pss_cons (ps_if (pt_cmpR op_ne (pv 4) (pe_callB call_len_seq rfl T.z_len bi_len (pa_cons (pv 8) pa_nil)) (nomark _))
    pss_never
    pss_nil)
  (pss_cons (ps_if (PW.pt (pw_or (pt_cmpR op_eq (pv 6) pe_int (nomark _)) (pw_or1 (PW.pt (pw_and (pt_cmpR op_gt (pe_callB call_len_seq rfl T.z_len bi_len (pa_cons (pv 8) pa_nil)) pe_int (nomark _)) (pw_and1 (pt_cmpR op_lt (pv 5) (pe_op op_add (pe_ix ix_tup (pe_ix ix_list (pv 8) (pe_un un_neg pe_int) (fun _ _ => rfl)) pe_int (fun _ _ => rfl)) (pe_ix ix_tup (pe_ix ix_list (pv 8) (pe_un un_neg pe_int) (fun _ _ => rfl)) pe_int (fun _ _ => rfl))) (nomark _))))))))
    pss_never
    pss_nil)
  (pss_cons (ps_if (PW.pt (pw_and (pt_cmpR op_eq (pv 7) pe_int (nomark _)) (pw_and1 (pt_cmpR op_eq (pe_callB call_len_seq rfl T.z_len bi_len (pa_cons (pv 8) pa_nil)) pe_int (nomark _)))))
    pss_never
    pss_nil)
  (pss_cons (ps_if (PW.pt (pw_and (pt_cmpR op_eq (pv 7) pe_int (nomark _)) (pw_and1 (pt_cmpR op_gt (pe_callB call_len_seq rfl T.z_len bi_len (pa_cons (pv 8) pa_nil)) pe_int (nomark _)))))
    (pss_one (ps_dput (hu1_of hr) (pe_fld (pv 0) rfl) (pe_fld (pv 0) rfl) (pe_tup (pa_cons (pv 3) (pa_cons (pv 5) pa_nil))) rfl))
    pss_nil)
  (pss_one (ps_expr (pe_bm PySem.F.plainAttrs_list PySem.F.slot_list_append PySem.F.type_list_append mt_append (pv 8) (pa_cons (pv 1) pa_nil)))))))))))), ?_⟩
    have A : Adv (fun q => q = p ∨ q ∈ cs) G H G H := .refl sG
    have co : Cl (fun _ => True) H G H o _ := ⟨.inl trivial, go, ho⟩
    have p1 := pre_le F
    obtain ⟨a, b, rfl, ha, hb⟩ := hr0.lf
    obtain ⟨ah, rh, xs, rfl, hah, hrh, hx⟩ := (ph.hd (by omega)).hd3
    obtain ⟨ul, rfl, hul⟩ := ph.un (by omega)
    have lcs := ph.len
    rw [if_neg (by omega)] at lcs
    have uv := fv.un i l hl
    have u1 := uv.t0
    have u2 := uv.t1
    obtain ⟨k, hk⟩ : ∃ k, l.track = k + 1 := ⟨l.track - 1, by omega⟩
    have hci : cs[k]? = some (cs[k]'(by omega)) := List.getElem?_eq_getElem (by omega)
    generalize cs[k]'(by omega) = c at hci
    have hri : F.rows[k]? = some (F.rows[k]'(by omega)) := List.getElem?_eq_getElem (by omega)
    generalize F.rows[k]'(by omega) = row at hri
    obtain ⟨vs, gc, hc, rc⟩ := ph.cell k c hci
    have cc : Cl (fun q => q = p ∨ q ∈ cs) H G H c (.lst vs) := ⟨.inl (.inr (List.mem_of_getElem? hci)), gc, hc⟩
    obtain ⟨kvs, gp, hp, lk, hkv⟩ := ph.dict
    have cp : Cl (fun q => q = p ∨ q ∈ cs) H G H p (.dK kvs) := ⟨.inl (.inl rfl), gp, hp⟩
    have ncp : c ≠ p := cc.ne cp fun z => nomatch z
    have etk : trkV F ((pre F).length + i) k = trk l.track (F.us.take i) := by rw [trkV, hk, Nat.add_sub_cancel_left]
    rw [etk] at rc
    have lvs : vs.length = l.ord := by rw [rc.len, List.length_map, uv.ord]
    have htot : (trk l.track (F.us.take i)).length < row.2.2 := by
      rw [← fv.cnt k row hri, ← hk]
      have hus : F.us = F.us.take i ++ l :: F.us.drop (i + 1) := by
        conv => lhs; rw [← List.take_append_drop i F.us, drop_cons hl]
      conv => rhs; rw [hus]
      rw [trk, trk, List.filter_append, List.length_append, List.filter_cons, if_pos (by simp)]
      simp only [List.length_cons]
      omega
    have hlt : l.ord < row.2.2 := by rw [uv.ord]; exact htot
    have o1 := uv.ok.ord
    have o2 := uv.span
    have o3 := uv.key
    have o4 := uv.ok.key
    walk_at "sp"
    refine S_ixL (ql sG hul) (atI_n (j := k) (by omega) (get_map hci)) ?_
    walk_at "sp"
    obtain ⟨v, hv, rv⟩ := hx.get (get_map hri)
    obtain ⟨br, rfl, hbr⟩ := rv.row
    refine S_ixL (ql sG hrh) (atI_n (j := k) (by omega) hv) ?_
    walk_at "sp"
    -- the time behind the last
    have htime : 0 < l.ord → ∃ vs0 m bm, vs = vs0 ++ [.ref m] ∧ ∃ lm : Lf, H m = some (.tup [.int lm.kind, .int lm.stamp, .int lm.num, .int lm.track, .int lm.ord, .int lm.time, .int lm.span, .int lm.key, .ref bm]) ∧ lm.time + lm.span ≤ l.time ∧ G m = H m := fun h => by
      obtain ⟨lm, hlm⟩ : ∃ lm, (trk l.track (F.us.take i)).getLast? = some lm := by
        cases e : (trk l.track (F.us.take i)).getLast? with
        | some x => exact ⟨x, rfl⟩
        | none =>
          rw [List.getLast?_eq_none_iff] at e
          have := uv.ord
          rw [e] at this
          simp only [List.length_nil] at this
          omega
      have ht := uv.time lm hlm
      rw [List.getLast?_eq_getElem?] at hlm
      obtain ⟨vm, hvm, rvm⟩ := rc.get (get_map hlm)
      obtain ⟨m, bm, rfl, hm, hbm⟩ := rvm.lf
      rw [← uv.ord, ← lvs] at hvm
      refine ⟨vs.take (vs.length - 1), m, bm, ?_, lm, sG _ _ hm, ht, hm.trans (sG _ _ hm).symm⟩
      have e := take_snoc hvm
      rw [List.take_of_length_le (by omega)] at e
      exact e
    have fin : ∀ (G1 H1 : Hp) (kvs1 : List (Key × V)), Adv (fun q => q = p ∨ q ∈ cs) G H G1 H1 → Cl (fun q => q = p ∨ q ∈ cs) H G1 H1 c (.lst vs) → Cl (fun q => q = p ∨ q ∈ cs) H G1 H1 p (.dK kvs1) → (∀ c' x, c' ∈ cs → H c' = some x → H1 c' = some x) → kvs1.length ≤ (pre F).length + i + 1 →
        (∀ j u, j + (pre F).length < (pre F).length + i + 1 → F.us[j]? = some u → u.key = 1 → u.ord ≠ 0 → ∃ t, valV kvs1 (.inl ((off F ((pre F).length + j) : Nat) : Int)) = some t ∧ Rp G1 t (.tuple [.int u.track, .int u.time])) →
        rAppend (.ref c) [.ref a] H1 fun _ H2 => Q .non H2 := fun G1 H1 kvs1 A1 cc1 cp1 hoth lk1 hd1 => by
      refine S_app' A1 cc1 (by omega) fun H2 A2 cc2 mm => ?_
      have cp2 := mm _ _ cp1 (Ne.symm ncp)
      refine q _ _ A2 ⟨fun z => (ph.hd (by omega)).mono A2.gg, ?_, ?_, fun _ => ⟨ul, rfl, A2.gg _ _ hul⟩, by rw [lcs, if_neg (by omega)], fun k' c' hk' => ?_, ph.nd, kvs1, cp2.g, cp2.h, lk1, hd1⟩
      · have h1 := ph.tg
        have : (if 2 ≤ (pre F).length + i then F.tags else []) = (if 2 ≤ (pre F).length + i + 1 then F.tags else []) := by
          by_cases c2 : 2 ≤ (pre F).length + i
          · rw [if_pos c2, if_pos (by omega)]
          · rw [if_neg c2]
            have hp := pre_len F
            by_cases ht : F.tags = []
            · rw [ht]
              split <;> rfl
            · rw [if_neg ht] at hp
              omega
        rw [← this]
        exact h1.mono A2.gg
      · have h1 := ph.en
        have hi := (List.getElem?_eq_some_iff.mp hl).1
        rw [if_neg (by omega)] at h1
        rw [if_neg (by omega)]
        exact h1.mono A2.gg
      · have e1 : F.us.take ((pre F).length + i + 1 - (pre F).length) = F.us.take i ++ [l] := by
          rw [show (pre F).length + i + 1 - (pre F).length = i + 1 by omega, take_snoc hl]
        rw [trkV, e1, trk_snoc]
        by_cases ck : k' = k
        · subst ck
          rw [hci] at hk'
          cases hk'
          refine ⟨_, cc2.g, cc2.h, ?_⟩
          rw [← hk, if_pos rfl, List.map_append]
          exact (rc.mono A2.gg).snoc (hr0.mono A2.gg)
        · obtain ⟨vs', gc', hc', rc'⟩ := ph.cell k' c' hk'
          rw [if_neg (by omega), List.append_nil]
          have nc' : c' ≠ c := fun z => ck (by
            subst z
            have h1 := (List.getElem?_eq_some_iff.mp hk').1
            exact (List.getElem?_inj h1 ph.nd).mp (hk'.trans hci.symm))
          have hc1 := hoth c' _ (List.mem_of_getElem? hk') hc'
          have c1 : Cl (fun q => q = p ∨ q ∈ cs) H G1 H1 c' (.lst vs') := ⟨.inl (.inr (List.mem_of_getElem? hk')), A1.nw c' gc' (by rw [hc']; exact fun z => nomatch z), hc1⟩
          have c2 := mm _ _ c1 nc'
          refine ⟨vs', c2.g, c2.h, ?_⟩
          rw [trkV, Nat.add_sub_cancel_left] at rc'
          exact rc'.mono A2.gg
    have old : ∀ j u, j + (pre F).length < (pre F).length + i + 1 → F.us[j]? = some u → u.key = 1 → u.ord ≠ 0 → (¬ j = i) → ∃ t, valV kvs (.inl ((off F ((pre F).length + j) : Nat) : Int)) = some t ∧ Rp G t (.tuple [.int u.track, .int u.time]) := fun j u h1 h2 h3 h4 h5 => hkv j u (by omega) h2 h3 h4
    by_cases z : l.ord = 0
    · have h1 := o3 z
      walk_at "sp"
      refine fin G H kvs A cc cp (fun _ _ _ e => e) (by omega) fun j u h1 h2 h3 h4 => old j u h1 h2 h3 h4 fun e => ?_
      subst e
      rw [hl] at h2
      cases h2
      exact h4 z
    · obtain ⟨vs0, m, bm, evs, lm, hm, hle, hGm⟩ := htime (by omega)
      have hatl : atI vs (-1) = some (.ref m) := by
        rw [evs]
        exact atI_last _ _
      have hmT : SqT K H m [V.int lm.kind, .int lm.stamp, .int lm.num, .int lm.track, .int lm.ord, .int lm.time, .int lm.span, .int lm.key, .ref bm] := .inl (.inl hm)
      walk_at "sp"
      refine S_ixL cc.l hatl ?_
      walk_at "sp"
      refine S_ixT hmT rfl ?_
      walk_at "sp"
      refine S_ixL cc.l hatl ?_
      walk_at "sp"
      refine S_ixT hmT rfl ?_
      walk_at "sp"
      by_cases hk1 : l.key = 1
      · walk_at "sp"
        refine ⟨line_le (by simp), S_newF A fun p2 G2 H2 A2 g2 hp2 mm => ?_⟩
        have cc2 := mm _ _ cc
        have cp2 := mm _ _ cp
        have hoth : ∀ c' x, c' ∈ cs → H c' = some x → H2 c' = some x := fun c' x hc' hx => by
          obtain ⟨k', hk'⟩ := List.mem_iff_getElem?.mp hc'
          obtain ⟨vs', gc', hcc, _⟩ := ph.cell k' c' hk'
          exact (mm c' x ⟨.inl (.inr hc'), gc', hx⟩).h
        have co2 : Cl (fun _ => True) H G2 H2 o _ := ⟨.inl trivial, A2.nw o go (by rw [ho]; exact fun z => nomatch z), A2.kp o _ (fun z => z.elim (fun e => by subst e; rw [hp] at ho; cases ho) nocs) ho⟩
        walk_at "sp"
        have lkv : kvs.length < 16777216 := by
          have := fv.usL
          have hi := (List.getElem?_eq_some_iff.mp hl).1
          omega
        refine S_dpk A2 cp2 lkv fun H3 A3 cp3 mm3 => ?_
        have cc3 := mm3 _ _ cc2 ncp
        walk_at "sp"
        refine fin _ _ _ A3 cc3 cp3 (fun c' x hc' hx => ?_) (by have := length_putK kvs (.inl ((off F ((pre F).length + i) : Nat) : Int)) (.ref p2); omega) fun j u h1 h2 h3 h4 => ?_
        · obtain ⟨k', hk'⟩ := List.mem_iff_getElem?.mp hc'
          obtain ⟨vs', gc', hcc, _⟩ := ph.cell k' c' hk'
          have c1 : Cl (fun q => q = p ∨ q ∈ cs) H G H c' x := ⟨.inl (.inr hc'), gc', hx⟩
          have c2 : Cl (fun q => q = p ∨ q ∈ cs) H G H c' (.lst vs') := ⟨.inl (.inr hc'), gc', hcc⟩
          exact (mm3 _ _ (mm _ _ c1) (c2.ne cp fun z => nomatch z)).h
        · rw [valV_put]
          have hi := (List.getElem?_eq_some_iff.mp hl).1
          have hN := lsE_len F
          by_cases e : j = i
          · subst e
            rw [hl] at h2
            cases h2
            rw [if_pos rfl]
            exact ⟨_, rfl, .tup hp2 (.cons (.int _) (.cons (.int _) .nil))⟩
          · obtain ⟨t, e1, rt⟩ := old j u h1 h2 h3 h4 e
            rw [if_neg fun z => ?_]
            · exact ⟨t, e1, rt.mono g2⟩
            · have z1 := Sum.inl.inj z
              have lt := off_lt (F := F) (m := (pre F).length + j) (n := (pre F).length + i) (by omega) (by omega)
              omega
      · walk_at "sp"
        refine fin G H kvs A cc cp (fun _ _ _ e => e) (by omega) fun j u h1 h2 h3 h4 => old j u h1 h2 h3 h4 fun e => ?_
        subst e
        rw [hl] at h2
        cases h2
        exact hk1 h3
end
/-! w20 -/
section
variable {P : Program} {w : World} {K : PySem.W.Frag} {mg : Str → Option Value} {base : Heap}
/-- a leaf that is no unit: what stood is known on -/
theorem Ph.next {F : Fl} {n : Nat} {G H G' H' : Hp} {hv tv ev uv hv' tv' ev' : V} {p : Addr} {cs : List Addr} (ph : Ph F n G H hv tv ev uv p cs) {M : Addr → Prop} (A : Adv M G H G' H') (hp : ¬ M p) (hc : ∀ c ∈ cs, ¬ M c) (h1 : 1 ≤ n)
    (hn : ∀ i, i < F.us.length → i + (pre F).length < n + 1 → i + (pre F).length < n) (ht : F.us.take (n + 1 - (pre F).length) = F.us.take (n - (pre F).length))
    (hd : Rp G' hv' (HeadD F.tk F.sk F.rows)) (tg : Rp G' tv' (.list ((if 2 ≤ n + 1 then F.tags else []).map TagD))) (en : Rp G' ev' (.list ((if (pre F).length + F.us.length + 1 ≤ n + 1 then F.es else []).map EntD))) : Ph F (n + 1) G' H' hv' tv' ev' uv p cs := by
  have q := ph.mono A hp hc
  have hlen := q.len
  rw [if_neg (by omega)] at hlen
  refine ⟨fun _ => hd, tg, en, fun _ => q.un h1, by rw [if_neg (by omega)]; exact hlen, fun k c hk => ?_, q.nd, ?_⟩
  · obtain ⟨vs, g, hh, r⟩ := q.cell k c hk
    refine ⟨vs, g, hh, ?_⟩
    rw [trkV, ht]
    exact r
  · obtain ⟨kvs, g, hh, l, r⟩ := q.dict
    exact ⟨kvs, g, hh, by omega, fun i u h1 h2 h3 h4 => r i u (hn i (List.getElem?_eq_some_iff.mp h2).1 h1) h2 h3 h4⟩
abbrev Mr (o p : Addr) (cs : List Addr) : Addr → Prop := fun q => q = o ∨ q = p ∨ q ∈ cs
def sp_LeafReader_check_body (K : PySem.W.Frag) : Sp := fun vs H Q _ => ∃ (F : Fl) (n : Nat) (l : Lf) (G : Hp) (o dx d : Addr) (r : V) (s st : Nat) (last : Int) (hv tv ev uv : V) (p : Addr) (cs : List Addr), Same G H ∧ vs = [.ref o, .int l.kind, r] ∧ FV F ∧ (lsE F)[n]? = some l ∧ l.kind ≠ 2 ∧ Rp G r (IntsD l.body) ∧
  H o = some (lrO K dx d (off F n) s n st last hv tv ev uv p) ∧ G o = none ∧ G d = some (.lst ((fileB (lsE F)).map V.int)) ∧ o ∉ cs ∧ Ph F n G H hv tv ev uv p cs ∧
  (∀ G' H' hv' tv' ev' uv' cs', Adv (Mr o p cs) G H G' H' → H' o = some (lrO K dx d (off F n) s n st last hv' tv' ev' uv' p) → Ph F (n + 1) G' H' hv' tv' ev' uv' p cs' → (∀ c ∈ cs', c ∈ cs ∨ H c = none) → Q .non H')
theorem sc_LeafReader_check_body : FnScope n_LeafReader_check_body p_LeafReader_check_body (defScope s_LeafReader_check_body) := ⟨rfl, rfl, rfl, by decide +kernel, rfl, by decide +kernel, by decide +kernel⟩
theorem ok_LeafReader_check_body (T : Facts K mg) : FnOk P w K mg base CX0 6 (mA K "LeafReader" "check_body") (mD K "LeafReader" "check_body") p_LeafReader_check_body (sp_LeafReader_check_body K) := by
  refine T.LeafReader_check_body.F.ok sc_LeafReader_check_body (fun vs H Q E h => ?_) (fun cdv A outer s H vs Q E hr h => ?_)
  · obtain ⟨F, n, l, G, o, dx, d, r, s, st, last, hv, tv, ev, uv, p, cs, _, rfl, _⟩ := h
    rfl
  · obtain ⟨F, n, l, G, o, dx, d, r, s, st, last, hv, tv, ev, uv, p, cs, sG, rfl, fv, hl, hk2, hr0, ho, go, hd, nocs, ph, q⟩ := h
    refine ⟨_, PSs.nox (pss_cons (ps_try_thru0 (pss_one (ps_if (pt_cmpR op_eq (pv 1) (pe_gi rfl T.g_HEAD) (nomark _))
    (pss_cons (ps_fld (pv 0) (pe_call (ok_read_head T) (hr.mono (by decide)) (by rfl) T.read_head.g T.read_head.kp T.read_head.b .nil pass0 (pa_cons (pv 2) pa_nil)) rfl)
  (pss_one (ps_fld (pv 0) (pe_lc (own := [("_", 3)]) rfl sc_LeafReader_check_body.nd (pi_list (pe_ix ix_tup (pe_fld (pv 0) rfl) pe_int (fun _ _ => rfl))) (blkOk_by (own := [("_", 3)]) (N := n_LeafReader_check_body) (sc := defScope s_LeafReader_check_body) (by decide +kernel)) (fun _ _ _ _ _ => (pg_name (i := 3) sc_LeafReader_check_body.nd rfl (.inl rfl))) (fun _ _ _ _ _ => pts_nil) (fun _ _ _ _ _ => (pe_lst pa_nil))) rfl)))
    (pss_one (ps_if (pt_cmpR op_eq (pv 1) (pe_gi rfl T.g_TAGS) (nomark _))
    (pss_one (ps_fld (pv 0) (pe_call (ok_read_tags T) (hr.mono (by decide)) (by rfl) T.read_tags.g T.read_tags.kp T.read_tags.b .nil pass0 (pa_cons (pv 2) pa_nil)) rfl))
    (pss_one (ps_if (pt_cmpR op_eq (pv 1) (pe_gi rfl T.g_INDEX) (nomark _))
    (pss_one (ps_fld (pv 0) (pe_call (ok_read_index T) (hr.mono (by decide)) (by rfl) T.read_index.g T.read_index.kp T.read_index.b .nil pass0 (pa_cons (pv 2) pa_nil)) rfl))
    (pss_one (ps_asg (pe_call (ok_read_end T) (hr.mono (by decide)) (by rfl) T.read_end.g T.read_end.kp T.read_end.b .nil pass0 (pa_cons (pv 2) pa_nil)) (pg_tup rfl (pgs_cons (pg_name (i := 4) sc_LeafReader_check_body.nd rfl (.inl rfl)) (pgs_cons (pg_name (i := 5) sc_LeafReader_check_body.nd rfl (.inl rfl)) pgs_nil))))))))))))
  (pss_one (ps_if (pt_cmpR op_eq (pv 1) (pe_gi rfl T.g_INDEX) (nomark _))
    (pss_one (ps_expr (pe_meth0 (pv 0) T.cl_LeafReader T.m_LeafReader_check_entries (ok_LeafReader_check_entries T) (hr.mono (by decide)) T.LeafReader_check_entries.b .nil pass0)))
    (pss_one (ps_if (pt_cmpR op_eq (pv 1) (pe_gi rfl T.g_END) (nomark _))
    (pss_one (ps_expr (pe_meth (pv 0) T.cl_LeafReader T.m_LeafReader_check_end (ok_LeafReader_check_end T) (hr.mono (by decide)) T.LeafReader_check_end.b .nil pass0 (pa_cons (pv 4) (pa_cons (pv 5) pa_nil)))))
    pss_nil))))), ?_⟩
    have A : Adv (· = o) G H G H := .refl sG
    have co : Cl (· = o) H G H o _ := ⟨.inl rfl, go, ho⟩
    have nop : o ≠ p := fun z => by
      obtain ⟨kvs, _, hp, _⟩ := ph.dict
      subst z
      rw [ho] at hp
      cases hp
    have up : ∀ q, q = o → Mr o p cs q := fun q h => .inl h
    have ncs : ∀ c ∈ cs, ¬ c = o := fun c hc z => nocs (z ▸ hc)
    have p1 := pre_le F
    rcases lsE_cases hl with ⟨rfl, rfl⟩ | ⟨rfl, ht, rfl⟩ | ⟨i, _, hu⟩ | ⟨rfl, rfl⟩ | ⟨rfl, rfl⟩
    · have h1 := fv.tk
      have h2 := fv.sk
      have h3 := fv.rows
      have hcs : cs = [] := by
        have := ph.len
        rw [if_pos rfl] at this
        exact List.length_eq_zero_iff.mp this
      subst hcs
      simp only [pl] at hr0 ⊢
      walk_at "sp"
      refine ⟨G, r, F.tk, F.sk, F.rows, sG, rfl, hr0, h1.1, h1.2, h2, by omega, fv.row, fun v G1 H1 B1 rv => ?_⟩
      have A1 := A.call B1
      have c1 := co.call B1
      walk_at "sp"
      refine sf_LeafReader_head T A1 c1 fun H2 A2 c2 _ => ?_
      obtain ⟨ah, rh, xs, rfl, hah, hrh, hx⟩ := rv.hd3
      have lx : xs.length = F.rows.length := by rw [hx.len, List.length_map]
      walk_at "sp"
      refine S_lcC A2.gh hrh (by omega) (fun _ => rfl) fun D G3 H3 cs A3 hD hl hnd hcs => ?_
      have A3' := A2.call A3
      have c3 := c2.call A3
      walk_at "sp"
      refine sf_LeafReader_units T A3' c3 fun H4 A4 c4 mm => ?_
      walk_at "sp"
      have ph4 := ph.mono A4 (fun z => nop z.symm) (fun _ z => nomatch z)
      refine q _ _ _ _ _ _ cs (A4.mono up) c4.h ⟨fun _ => rv.mono A3.gg, ph4.tg, ?_, fun _ => ⟨D, rfl, hD⟩, by rw [hl, lx]; rfl, fun k c hk => ?_, hnd, ?_⟩ fun c hc => .inr ?_
      · have := ph4.en
        rw [if_neg (by omega)] at this
        rw [if_neg (by omega)]
        exact this
      · obtain ⟨e1, e2, e3⟩ := hcs c (List.mem_of_getElem? hk)
        have cc : Cl (· = o) H G3 H3 c (.lst []) := ⟨.inr (A2.fresh e1), e2, e3⟩
        have c5 := mm _ _ cc (fun z => by
          have := c3.h
          rw [z] at e3
          rw [e3] at this
          cases this)
        refine ⟨[], c5.g, c5.h, ?_⟩
        have : trkV F (0 + 1) k = [] := by
          rw [trkV, show 0 + 1 - (pre F).length = 0 by omega]
          rfl
        rw [this]
        exact .nil
      · obtain ⟨kvs, g, hh, lk, r⟩ := ph4.dict
        exact ⟨kvs, g, hh, by omega, fun i u h1 => by omega⟩
      · exact A2.fresh (hcs c hc).1
    · have hp := pre_len F
      rw [if_neg ht] at hp
      simp only [pl] at hr0 ⊢
      have htl : 1 ≤ F.tags.length := List.length_pos_iff.mpr ht
      walk_at "sp"
      refine ⟨G, r, F.tags, sG, rfl, hr0, htl, fv.tagsL, fv.tag, fv.sort, fun v G1 H1 B1 rv => ?_⟩
      have A1 := A.call B1
      have c1 := co.call B1
      walk_at "sp"
      refine sf_LeafReader_tags T A1 c1 fun H2 A2 c2 _ => ?_
      walk_at "sp"
      refine q _ _ _ _ _ _ cs (A2.mono up) c2.h ?_ fun c hc => .inl hc
      refine ph.next A2 (fun z => nop z.symm) ncs (Nat.le_refl _) (fun i _ _ => by omega) (by rw [hp]) ((ph.hd (Nat.le_refl _)).mono A2.gg) rv ?_
      have := ph.en
      rw [if_neg (by omega)] at this
      rw [if_neg (by omega)]
      exact this.mono A2.gg
    · exact absurd (fv.un i l hu).kind hk2
    · simp only [pl] at hr0 ⊢
      walk_at "sp"
      refine ⟨G, r, F.es, sG, rfl, hr0, fv.esL, ent_ok fv, fun v G1 H1 B1 rv => ?_⟩
      have A1 := A.call B1
      have c1 := co.call B1
      walk_at "sp"
      refine sf_LeafReader_entries T A1 c1 fun H2 A2 c2 _ => ?_
      have tg := ph.tg
      have e1 : (if 2 ≤ (pre F).length + F.us.length then F.tags else []) = (if 2 ≤ (pre F).length + F.us.length + 1 then F.tags else []) := by
        have hp := pre_len F
        by_cases ht : F.tags = []
        · rw [ht]
          split <;> split <;> rfl
        · rw [if_neg ht] at hp
          rw [if_pos (by omega), if_pos (by omega)]
      rw [e1] at tg
      have ph2 : Ph F ((pre F).length + F.us.length + 1) G1 H2 hv tv v uv p cs := ph.next A2 (fun z => nop z.symm) ncs (by omega) (fun i h1 h2 => by omega) (by rw [take_all (by omega), take_all (Nat.le_refl _)]) ((ph.hd (by omega)).mono A2.gg) (tg.mono A2.gg) (by rw [if_pos (Nat.le_refl _)]; exact rv)
      walk_at "sp"
      refine ⟨F, G1, o, dx, d, _, _, _, _, _, _, _, _, _, p, cs, A2.gh, rfl, fv, c2.h, c2.g, ph2, fun G3 H3 B3 => ?_⟩
      have A3 := A2.call B3
      walk_at "sp"
      exact q _ _ _ _ _ _ cs (A3.mono up) (c2.call B3).h (ph2.mono B3 (fun z => z) (fun _ _ z => z)) fun c hc => .inl hc
    · have hli := lsI_len F
      have us := fv.usL
      simp only [pl] at hr0 ⊢
      walk_at "sp"
      refine ⟨G, r, (lsI F).length + 1, crc (fileB (lsI F)), sG, rfl, hr0, by omega, crc_lt (fileB_bys fun l hl => ok_all fv l (by rw [lsE]; exact List.mem_append_left _ hl)), fun v G1 H1 B1 rv => ?_⟩
      have A1 := A.call B1
      have c1 := co.call B1
      obtain ⟨a, vs, rfl, ha, rl⟩ := rv.tuple
      rcases rl with _ | ⟨⟨⟩, _ | ⟨⟨⟩, _ | _⟩⟩
      have ph1 := ph.mono B1 (fun z => z) (fun _ _ z => z)
      rw [← hli] at ho c1
      walk_at "sp"
      refine ⟨F, G1, o, dx, d, _, _, _, _, _, _, _, p, cs, (pre F).length + F.us.length + 1, A1.gh, rfl, fv, c1.h, c1.g, A1.gg _ _ hd, by omega, ph1, fun G3 H3 B3 => ?_⟩
      have A3 := A1.call B3
      walk_at "sp"
      have ph3 := ph1.mono B3 (fun z => z) (fun _ _ z => z)
      have tg := ph3.tg
      have en := ph3.en
      rw [if_pos (Nat.le_refl _)] at en
      rw [if_pos (by omega)] at tg
      refine q _ _ _ _ _ _ cs (A3.mono up) (by rw [← hli]; exact (c1.call B3).h) (ph1.next B3 (fun z => z) (fun _ _ z => z) (by omega) (fun i h1 h2 => by omega) (by rw [take_all (by omega), take_all (by omega)]) (ph3.hd (by omega)) (by rw [if_pos (by omega)]; exact tg) (by rw [if_pos (by omega)]; exact en)) fun c hc => .inl hc
end
/-! w21 -/
section
variable {P : Program} {w : World} {K : PySem.W.Frag} {mg : Str → Option Value} {base : Heap}
def lastOf (F : Fl) : Nat → Int
  | 0 => -1
  | n + 1 => match (lsE F)[n]? with
    | some l => (l.kind : Int)
    | none => 4
theorem lastOf_succ {F : Fl} {n : Nat} {l : Lf} (h : (lsE F)[n]? = some l) : lastOf F (n + 1) = l.kind := by
  rw [lastOf, h]
theorem lsE_kind {F : Fl} (fv : FV F) {n : Nat} {l : Lf} (h : (lsE F)[n]? = some l) : l.kind = if n = 0 then 0 else if n < (pre F).length then 1 else if n < (pre F).length + F.us.length then 2 else if n = (pre F).length + F.us.length then 3 else 4 := by
  have p := pre_le F
  have hp := pre_len F
  rcases lsE_cases h with ⟨rfl, rfl⟩ | ⟨rfl, ht, rfl⟩ | ⟨i, rfl, hu⟩ | ⟨rfl, rfl⟩ | ⟨rfl, rfl⟩
  · rfl
  · rw [if_neg ht] at hp
    rw [if_neg (by omega), if_pos (by omega)]
    rfl
  · have hi := (List.getElem?_eq_some_iff.mp hu).1
    rw [if_neg (by omega), if_neg (by omega), if_pos (by omega), (fv.un i l hu).kind]
  · rw [if_neg (by omega), if_neg (by omega), if_neg (by omega), if_pos rfl]
    rfl
  · rw [if_neg (by omega), if_neg (by omega), if_neg (by omega), if_neg (by omega)]
    rfl
theorem inO {F : Fl} (fv : FV F) {n : Nat} {l : Lf} (h : (lsE F)[n]? = some l) : InO n l.kind (lastOf F n) := by
  have hk := lsE_kind fv h
  have p := pre_le F
  have hp := pre_len F
  have hn := (List.getElem?_eq_some_iff.mp h).1
  have hN := lsE_len F
  cases n with
  | zero => exact .inl ⟨rfl, hk⟩
  | succ n =>
    have hg := List.getElem?_eq_getElem (l := lsE F) (i := n) (by omega)
    have hk2 := lsE_kind fv hg
    rw [lastOf_succ hg]
    generalize (lsE F)[n].kind = k2 at hk2 ⊢
    rw [if_neg (by omega)] at hk
    by_cases c1 : n + 1 < (pre F).length
    · rw [if_pos c1] at hk
      exact .inr (.inl ⟨by omega, hk⟩)
    · rw [if_neg c1] at hk
      have k23 : k2 ≠ 3 ∨ n = (pre F).length + F.us.length := by
        by_cases e : n = (pre F).length + F.us.length
        · exact .inr e
        · left
          rw [if_neg e] at hk2
          intro z
          rw [z] at hk2
          split at hk2
          · omega
          · split at hk2
            · omega
            · split at hk2
              · omega
              · omega
      by_cases c2 : n + 1 < (pre F).length + F.us.length
      · rw [if_pos c2] at hk
        exact .inr (.inr (.inr ⟨by omega, .inl hk, by omega⟩))
      · rw [if_neg c2] at hk
        by_cases c3 : n + 1 = (pre F).length + F.us.length
        · rw [if_pos c3] at hk
          exact .inr (.inr (.inr ⟨by omega, .inr hk, by omega⟩))
        · rw [if_neg c3] at hk
          have e : n = (pre F).length + F.us.length := by omega
          rw [if_neg (by omega), if_neg (by omega), if_neg (by omega), if_pos e] at hk2
          exact .inr (.inr (.inl ⟨by omega, hk, by omega⟩))
def sp_LeafReader_check_leaf (K : PySem.W.Frag) : Sp := fun vs H Q _ => ∃ (F : Fl) (n : Nat) (l : Lf) (G : Hp) (o dx d : Addr) (r : V) (s st : Nat) (hv tv ev uv : V) (p : Addr) (cs : List Addr), Same G H ∧ vs = [.ref o, r] ∧ FV F ∧ (lsE F)[n]? = some l ∧ Rp G r (LfD l) ∧ (n = 0 ∨ st = F.stamp) ∧
  H o = some (lrO K dx d (off F n) s n st (lastOf F n) hv tv ev uv p) ∧ G o = none ∧ G d = some (.lst ((fileB (lsE F)).map V.int)) ∧ o ∉ cs ∧ Ph F n G H hv tv ev uv p cs ∧
  (∀ G' H' hv' tv' ev' uv' cs', Adv (Mr o p cs) G H G' H' → H' o = some (lrO K dx d (off F n) s n F.stamp (lastOf F n) hv' tv' ev' uv' p) → Ph F (n + 1) G' H' hv' tv' ev' uv' p cs' → (∀ c ∈ cs', c ∈ cs ∨ H c = none) → Q .non H')
theorem sc_LeafReader_check_leaf : FnScope n_LeafReader_check_leaf p_LeafReader_check_leaf (defScope s_LeafReader_check_leaf) := ⟨rfl, rfl, rfl, by decide +kernel, rfl, by decide +kernel, by decide +kernel⟩
theorem ok_LeafReader_check_leaf (T : Facts K mg) : FnOk P w K mg base CX0 7 (mA K "LeafReader" "check_leaf") (mD K "LeafReader" "check_leaf") p_LeafReader_check_leaf (sp_LeafReader_check_leaf K) := by
  refine T.LeafReader_check_leaf.F.ok sc_LeafReader_check_leaf (fun vs H Q E h => ?_) (fun cdv A outer s H vs Q E hr h => ?_)
  · obtain ⟨F, n, l, G, o, dx, d, r, s, st, hv, tv, ev, uv, p, cs, _, rfl, _⟩ := h
    rfl
  · obtain ⟨F, n, l, G, o, dx, d, r, s, st, hv, tv, ev, uv, p, cs, sG, rfl, fv, hl, hr0, hst, ho, go, hd, nocs, ph, q⟩ := h
    refine ⟨_, PSs.nox (pss_cons (ps_asg (pv 1) (pg_tup rfl (pgs_cons (pg_name (i := 2) sc_LeafReader_check_leaf.nd rfl (.inl rfl)) (pgs_cons (pg_name (i := 3) sc_LeafReader_check_leaf.nd rfl (.inl rfl)) (pgs_cons (pg_name (i := 4) sc_LeafReader_check_leaf.nd rfl (.inl rfl)) (pgs_cons (pg_name (i := 5) sc_LeafReader_check_leaf.nd rfl (.inl rfl)) (pgs_cons (pg_name (i := 6) sc_LeafReader_check_leaf.nd rfl (.inl rfl)) (pgs_cons (pg_name (i := 7) sc_LeafReader_check_leaf.nd rfl (.inl rfl)) (pgs_cons (pg_name (i := 8) sc_LeafReader_check_leaf.nd rfl (.inl rfl)) (pgs_cons (pg_name (i := 9) sc_LeafReader_check_leaf.nd rfl (.inl rfl)) (pgs_cons (pg_name (i := 10) sc_LeafReader_check_leaf.nd rfl (.inl rfl)) pgs_nil)))))))))))
  (pss_cons (ps_if (pt_cmpR op_eq (pe_fld (pv 0) rfl) pe_int (nomark _))
    (pss_one (ps_fld (pv 0) (pv 3) rfl))
    pss_nil)
  (pss_cons (ps_if (pt_cmpR op_ne (pv 3) (pe_fld (pv 0) rfl) (nomark _))
    pss_never
    pss_nil)
  (pss_cons (ps_if (pt_cmpR op_ne (pv 4) (pe_fld (pv 0) rfl) (nomark _))
    pss_never
    pss_nil)
  (pss_cons (ps_if (pt_not (pt_val (pe_meth (pv 0) T.cl_LeafReader T.m_LeafReader_is_in_order (ok_LeafReader_is_in_order T) (hr.mono (by decide)) T.LeafReader_is_in_order.b .nil pass0 (pa_cons (pv 2) pa_nil))))
    pss_never
    pss_nil)
  (pss_one (ps_if (pt_cmpR op_eq (pv 2) (pe_gi rfl T.g_UNIT) (nomark _))
    (pss_one (ps_expr (pe_meth (pv 0) T.cl_LeafReader T.m_LeafReader_check_unit (ok_LeafReader_check_unit T) (hr.mono (by decide)) T.LeafReader_check_unit.b .nil pass0 (pa_cons (pv 1) pa_nil))))
    (pss_cons (ps_if (pt_cmpR (op_neD hr.units) (pe_tup (pa_cons (pv 5) (pa_cons (pv 6) (pa_cons (pv 7) (pa_cons (pv 8) (pa_cons (pv 9) pa_nil)))))) (pe_tup (pa_cons pe_int (pa_cons pe_int (pa_cons pe_int (pa_cons pe_int (pa_cons pe_int pa_nil)))))) (nomark _))
    pss_never
    pss_nil)
  (pss_one (ps_expr (pe_meth (pv 0) T.cl_LeafReader T.m_LeafReader_check_body (ok_LeafReader_check_body T) (hr.mono (by decide)) T.LeafReader_check_body.b .nil pass0 (pa_cons (pv 2) (pa_cons (pv 10) pa_nil))))))))))))), ?_⟩
    have A : Adv (· = o) G H G H := .refl sG
    have co : Cl (· = o) H G H o _ := ⟨.inl rfl, go, ho⟩
    have nop : o ≠ p := fun z => by
      obtain ⟨kvs, _, hp, _⟩ := ph.dict
      subst z
      rw [ho] at hp
      cases hp
    have up : ∀ q, q = o → Mr o p cs q := fun q h => .inl h
    have ncs : ∀ c ∈ cs, ¬ c = o := fun c hc z => nocs (z ▸ hc)
    obtain ⟨a, b, rfl, ha, hb⟩ := hr0.lf
    have hstamp : l.stamp = F.stamp ∧ l.num = n := by
      rcases lsE_cases hl with ⟨rfl, rfl⟩ | ⟨rfl, ht, rfl⟩ | ⟨i, rfl, hu⟩ | ⟨rfl, rfl⟩ | ⟨rfl, rfl⟩
      · exact ⟨rfl, rfl⟩
      · exact ⟨rfl, rfl⟩
      · exact ⟨(fv.un i l hu).stamp, (fv.un i l hu).num⟩
      · exact ⟨rfl, lsU_len F⟩
      · exact ⟨rfl, lsI_len F⟩
    obtain ⟨e1, e2⟩ := hstamp
    have hio := inO fv hl
    have hkk := lsE_kind fv hl
    -- the end, behind the stamp
    have fin : ∀ G1 H1, Adv (· = o) G H G1 H1 → Cl (· = o) H G1 H1 o (lrO K dx d (off F n) s n F.stamp (lastOf F n) hv tv ev uv p) → Ph F n G1 H1 hv tv ev uv p cs ∧ (∀ c, H1 c = none → H c = none) ∧ o ∉ cs := fun G1 H1 A1 c1 =>
      ⟨ph.mono A1 (fun z => nop z.symm) ncs, fun c h => A1.fresh h, nocs⟩
    have five : l.kind ≠ 2 → l.track = 0 ∧ l.ord = 0 ∧ l.time = 0 ∧ l.span = 0 ∧ l.key = 0 ∧ True := fun h => by
      rcases lsE_cases hl with ⟨rfl, rfl⟩ | ⟨rfl, ht, rfl⟩ | ⟨i, rfl, hu⟩ | ⟨rfl, rfl⟩ | ⟨rfl, rfl⟩
      · exact ⟨rfl, rfl, rfl, rfl, rfl, trivial⟩
      · exact ⟨rfl, rfl, rfl, rfl, rfl, trivial⟩
      · exact absurd (fv.un i l hu).kind h
      · exact ⟨rfl, rfl, rfl, rfl, rfl, trivial⟩
      · exact ⟨rfl, rfl, rfl, rfl, rfl, trivial⟩
    walk_at "sp"
    have body : ∀ G1 H1, Adv (· = o) G H G1 H1 → Cl (· = o) H G1 H1 o (lrO K dx d (off F n) s n F.stamp (lastOf F n) hv tv ev uv p) → l.kind ≠ 2 → sp_LeafReader_check_body K [.ref o, .int l.kind, .ref b] H1 (fun _ H2 => Q .non H2) E0 := fun G1 H1 A1 c1 hk2 => by
      obtain ⟨ph1, hfr, _⟩ := fin G1 H1 A1 c1
      refine ⟨F, n, l, G1, o, dx, d, .ref b, _, _, _, _, _, _, _, p, cs, A1.gh, rfl, fv, hl, hk2, rp_ints (A1.gg _ _ hb), c1.h, c1.g, A1.gg _ _ hd, nocs, ph1, fun G2 H2 hv' tv' ev' uv' cs' A2 h2 ph2 hcs => ?_⟩
      exact q _ _ _ _ _ _ cs' ((A1.mono up).trans A2 fun q h => .inl h) h2 ph2 fun c hc => (hcs c hc).imp id (hfr c)
    have unit : ∀ H1, Adv (· = o) G H G H1 → Cl (· = o) H G H1 o (lrO K dx d (off F n) s n F.stamp (lastOf F n) hv tv ev uv p) → l.kind = 2 → sp_LeafReader_check_unit K [.ref o, .ref a] H1 (fun _ H2 => Q .non H2) E0 := fun H1 A1 c1 hk2 => by
      obtain ⟨ph1, hfr, _⟩ := fin G H1 A1 c1
      obtain ⟨i, rfl, hu⟩ : ∃ i, n = (pre F).length + i ∧ F.us[i]? = some l := by
        rcases lsE_cases hl with ⟨rfl, rfl⟩ | ⟨rfl, ht, rfl⟩ | ⟨i, rfl, hu⟩ | ⟨rfl, rfl⟩ | ⟨rfl, rfl⟩
        · exact absurd hk2 (by show ¬ (0 = 2); decide)
        · exact absurd hk2 (by show ¬ (1 = 2); decide)
        · exact ⟨i, rfl, hu⟩
        · exact absurd hk2 (by show ¬ (3 = 2); decide)
        · exact absurd hk2 (by show ¬ (4 = 2); decide)
      refine ⟨F, i, l, G, o, dx, d, .ref a, _, _, _, _, _, _, _, _, p, cs, A1.gh, rfl, fv, hu, hr0, c1.h, go, nocs, ph1, fun G2 H2 A2 ph2 => ?_⟩
      have h2 : H2 o = _ := A2.kp o _ (fun z => z.elim nop nocs) c1.h
      exact q _ _ _ _ _ _ cs ((A1.mono up).trans A2 fun q h => .inl (.inr h)) h2 ph2 fun c hc => .inl hc
    by_cases hn : n = 0
    · have hk0 : l.kind = 0 := by
        rw [if_pos hn] at hkk
        exact hkk
      obtain ⟨z1, z2, z3, z4, z5, _⟩ := five (by omega)
      walk_at "sp"
      refine sf_LeafReader_stamp T A co fun H1 A1 c1 _ => ?_
      rw [e1] at c1
      walk_at "sp"
      refine ⟨o, dx, d, _, _, _, _, _, _, _, _, _, p, l.kind, rfl, c1.h, hio, ?_⟩
      walk_at "sp"
      rw [z1, z2, z3, z4, z5]
      refine ⟨line_le (by simp), S_newF A1 fun p2 G2 H2 A2 g2 hp2 mm => ?_⟩
      have c2 := mm _ _ c1
      clear mm
      walk_at "sp"
      refine ⟨line_le (by simp), S_newF A2 fun p3 G3 H3 A3 g3 hp3 mm => ?_⟩
      have c3 := mm _ _ c2
      clear mm
      have zz : ∀ d ∈ [PyData.int 0, .int 0, .int 0, .int 0, .int 0], Shp 0 d := shp_cons (.int _ _) (shp_cons (.int _ _) (shp_cons (.int _ _) (shp_cons (.int _ _) (shp_cons (.int _ _) shp_nil))))
      refine ⟨_, _, (Rp.tup (g3 _ _ hp2) (.cons (.int _) (.cons (.int _) (.cons (.int _) (.cons (.int _) (.cons (.int _) .nil)))))).dp A3.gh, (Rp.tup hp3 (.cons (.int _) (.cons (.int _) (.cons (.int _) (.cons (.int _) (.cons (.int _) .nil)))))).dp A3.gh, (Shp.tup zz).shaped (by decide), (Shp.tup zz).shaped (by decide), ?_⟩
      have ez := (Shp.tup zz).eqv
      refine S_bf (by exact congrArg not ez) ?_
      walk_at "sp"
      exact body _ _ A3 c3 (by omega)
    · have hst := hst.resolve_left hn
      subst hst
      by_cases hk2 : l.kind = 2
      · walk_at "sp"
        refine ⟨o, dx, d, _, _, _, _, _, _, _, _, _, p, l.kind, rfl, co.h, hio, ?_⟩
        walk_at "sp"
        exact unit H A co hk2
      · obtain ⟨z1, z2, z3, z4, z5, _⟩ := five hk2
        walk_at "sp"
        refine ⟨o, dx, d, _, _, _, _, _, _, _, _, _, p, l.kind, rfl, co.h, hio, ?_⟩
        walk_at "sp"
        rw [z1, z2, z3, z4, z5]
        refine ⟨line_le (by simp), S_newF A fun p2 G2 H2 A2 g2 hp2 mm => ?_⟩
        have c2 := mm _ _ co
        clear mm
        walk_at "sp"
        refine ⟨line_le (by simp), S_newF A2 fun p3 G3 H3 A3 g3 hp3 mm => ?_⟩
        have c3 := mm _ _ c2
        clear mm
        have zz : ∀ d ∈ [PyData.int 0, .int 0, .int 0, .int 0, .int 0], Shp 0 d := shp_cons (.int _ _) (shp_cons (.int _ _) (shp_cons (.int _ _) (shp_cons (.int _ _) (shp_cons (.int _ _) shp_nil))))
        refine ⟨_, _, (Rp.tup (g3 _ _ hp2) (.cons (.int _) (.cons (.int _) (.cons (.int _) (.cons (.int _) (.cons (.int _) .nil)))))).dp A3.gh, (Rp.tup hp3 (.cons (.int _) (.cons (.int _) (.cons (.int _) (.cons (.int _) (.cons (.int _) .nil)))))).dp A3.gh, (Shp.tup zz).shaped (by decide), (Shp.tup zz).shaped (by decide), ?_⟩
        have ez := (Shp.tup zz).eqv
        refine S_bf (by exact congrArg not ez) ?_
        walk_at "sp"
        exact body _ _ A3 c3 (by omega)
end
/-! w22 -/
section
variable {P : Program} {w : World} {K : PySem.W.Frag} {mg : Str → Option Value} {base : Heap}
structure LR (K : PySem.W.Frag) (F : Fl) (n : Nat) (G H : Hp) (o dx d p : Addr) (hv tv ev uv : V) (cs : List Addr) : Prop where
  ob : H o = some (lrO K dx d (off F n) (off F n) n (if n = 0 then 0 else F.stamp) (lastOf F n) hv tv ev uv p)
  go : G o = none
  dt : G d = some (.lst ((fileB (lsE F)).map V.int))
  ph : Ph F n G H hv tv ev uv p cs
  nocs : o ∉ cs
theorem piece_at {F : Fl} {n : Nat} {l : Lf} (h : (lsE F)[n]? = some l) : fileB (lsE F) = fileB ((lsE F).take n) ++ stuffL (wLeaf l) ++ (0 :: ((lsE F).drop (n + 1)).flatMap lfB) := by
  rw [file_split h, lfB]
  simp
def sp_LeafReader_next_leaf (K : PySem.W.Frag) : Sp := fun vs H Q _ => ∃ (F : Fl) (n : Nat) (G : Hp) (o dx d : Addr) (hv tv ev uv : V) (p : Addr) (cs : List Addr), Same G H ∧ vs = [.ref o] ∧ FV F ∧ LR K F n G H o dx d p hv tv ev uv cs ∧ n ≤ (lsE F).length ∧
  (∀ l, (lsE F)[n]? = some l → ∀ v G' H' hv' tv' ev' uv' cs', Adv (Mr o p cs) G H G' H' → Rp G' v (LfD l) → LR K F (n + 1) G' H' o dx d p hv' tv' ev' uv' cs' → (∀ c ∈ cs', c ∈ cs ∨ H c = none) → Q v H') ∧ (n = (lsE F).length → Q .non H)
theorem sc_LeafReader_next_leaf : FnScope n_LeafReader_next_leaf p_LeafReader_next_leaf (defScope s_LeafReader_next_leaf) := ⟨rfl, rfl, rfl, by decide +kernel, rfl, by decide +kernel, by decide +kernel⟩
theorem ok_LeafReader_next_leaf (T : Facts K mg) : FnOk P w K mg base CX0 8 (mA K "LeafReader" "next_leaf") (mD K "LeafReader" "next_leaf") p_LeafReader_next_leaf (sp_LeafReader_next_leaf K) := by
  refine T.LeafReader_next_leaf.F.ok sc_LeafReader_next_leaf (fun vs H Q E h => ?_) (fun cdv A outer s H vs Q E hr h => ?_)
  · obtain ⟨F, n, G, o, dx, d, hv, tv, ev, uv, p, cs, _, rfl, _⟩ := h
    rfl
  · obtain ⟨F, n, G, o, dx, d, hv, tv, ev, uv, p, cs, sG, rfl, fv, lr, hn, q1, q2⟩ := h
    refine ⟨_, PSs.nox (pss_cons (ps_if (PW.pt (pw_and (pt_cmpR op_gt (pe_callB call_len_seq rfl T.z_len bi_len (pa_cons (pe_fld (pv 0) rfl) pa_nil)) pe_int (nomark _)) (pw_and1 (pt_cmpR op_ne (pe_ix ix_list (pe_fld (pv 0) rfl) pe_int (fun _ _ => rfl)) pe_int (nomark _)))))
    pss_never
    pss_nil)
  (pss_cons (ps_if (pt_cmpR op_eq (pe_fld (pv 0) rfl) (pe_gi rfl T.g_END) (nomark _))
    (pss_cons (ps_if (pt_cmpR op_gt (pe_callB call_len_seq rfl T.z_len bi_len (pa_cons (pe_fld (pv 0) rfl) pa_nil)) (pe_fld (pv 0) rfl) (nomark _))
    pss_never
    pss_nil)
  (pss_one (ps_ret pe_non)))
    pss_nil)
  (pss_cons (ps_while PassesOwn.never (PW.pt (pw_and (pt_cmpR op_lt (pe_fld (pv 0) rfl) (pe_callB call_len_seq rfl T.z_len bi_len (pa_cons (pe_fld (pv 0) rfl) pa_nil)) (nomark _)) (pw_and1 (pt_cmpR op_ne (pe_ix ix_list (pe_fld (pv 0) rfl) (pe_fld (pv 0) rfl) (fun _ _ => rfl)) pe_int (nomark _)))))
    (pss_one (ps_fld (pv 0) (pe_op op_add (pe_fld (pv 0) rfl) pe_int) rfl)))
  (pss_cons (ps_if (pt_cmpR op_ge (pe_fld (pv 0) rfl) (pe_callB call_len_seq rfl T.z_len bi_len (pa_cons (pe_fld (pv 0) rfl) pa_nil)) (nomark _))
    (pss_one (ps_ret pe_non))
    pss_nil)
  (pss_cons (ps_if (pt_cmpR op_eq (pe_fld (pv 0) rfl) (pe_fld (pv 0) rfl) (nomark _))
    pss_never
    pss_nil)
  (pss_cons (ps_set (i := 1) sc_LeafReader_next_leaf.nd rfl (.inl rfl) (pe_call (ok_leaf_of T) (hr.mono (by decide)) (by rfl) T.leaf_of.g T.leaf_of.kp T.leaf_of.b .nil pass0 (pa_cons (pe_call (ok_unstuffed T) (hr.mono (by decide)) (by rfl) T.unstuffed.g T.unstuffed.kp T.unstuffed.b .nil pass0 (pa_cons (pe_slice sl_list (pe_fld (pv 0) rfl) (po_some (pe_fld (pv 0) rfl)) (po_some (pe_fld (pv 0) rfl))) (pa_cons (pe_fld (pv 0) rfl) pa_nil))) (pa_cons (pe_fld (pv 0) rfl) pa_nil))))
  (pss_cons (ps_expr (pe_meth (pv 0) T.cl_LeafReader T.m_LeafReader_check_leaf (ok_LeafReader_check_leaf T) (hr.mono (by decide)) T.LeafReader_check_leaf.b .nil pass0 (pa_cons (pv 1) pa_nil)))
  (pss_cons (ps_fld (pv 0) (pe_ix ix_tup (pv 1) pe_int (fun _ _ => rfl)) rfl)
  (pss_cons (ps_fld (pv 0) (pe_op op_add (pe_fld (pv 0) rfl) pe_int) rfl)
  (pss_cons (ps_fld (pv 0) (pe_op op_add (pe_fld (pv 0) rfl) pe_int) rfl)
  (pss_cons (ps_fld (pv 0) (pe_fld (pv 0) rfl) rfl)
  (pss_one (ps_ret (pv 1)))))))))))))), ?_⟩
    have A : Adv (· = o) G H G H := .refl sG
    have co : Cl (· = o) H G H o _ := ⟨.inl rfl, lr.go, lr.ob⟩
    have nop : o ≠ p := fun z => by
      obtain ⟨kvs, _, hp, _⟩ := lr.ph.dict
      have ho := lr.ob
      subst z
      rw [ho] at hp
      cases hp
    have up : ∀ q, q = o → Mr o p cs q := fun q h => .inl h
    have ncs : ∀ c ∈ cs, ¬ c = o := fun c hc z => lr.nocs (z ▸ hc)
    have hd := lr.dt
    have fl := file_len fv
    have fp := fileB_pos (lsE F)
    have hN := lsE_len F
    have p1 := pre_le F
    have h0 : ((fileB (lsE F)).map V.int)[0]? = some (.int 0) := rfl
    walk_at "sp"
    have hall := off_all F
    by_cases c : n = (lsE F).length
    · have e4 : lastOf F n = 4 := by
        rw [c, hN]
        exact lastOf_succ (lsE_E F)
      have eo : off F n = (fileB (lsE F)).length := by rw [c, hall]
      walk_at "sp"
      exact q2 c
    · have hlt : n < (lsE F).length := by omega
      have hl := List.getElem?_eq_getElem hlt
      generalize (lsE F)[n] = l at hl
      have hne : lastOf F n ≠ 4 := by
        cases n with
        | zero => rw [lastOf]; omega
        | succ n =>
          have hg := List.getElem?_eq_getElem (l := lsE F) (i := n) (by omega)
          rw [lastOf_succ hg]
          have := lsE_kind fv hg
          split at this
          · omega
          · split at this
            · omega
            · split at this
              · omega
              · split at this
                · omega
                · omega
      have okl := lf_ok fv hl
      have hpc := piece_at hl
      have hoff : off F n = (fileB ((lsE F).take n)).length := rfl
      have hby : ∀ b ∈ stuffL (wLeaf l), 0 < b ∧ b < 256 := stuffA_byte (wLeaf l) [] ((wBase_bys okl).app (fourB_bys _)) (fun _ z => nomatch z) (by simp)
      have hpos : 0 < (stuffL (wLeaf l)).length := List.length_pos_iff.mpr (stuffA_ne [] (wLeaf l))
      have hs1 := off_succ hl
      have hlb : (lfB l).length = (stuffL (wLeaf l)).length + 1 := by simp [lfB]
      have hlen : (fileB (lsE F)).length = off F n + (stuffL (wLeaf l)).length + 1 + (((lsE F).drop (n + 1)).flatMap lfB).length := by
        rw [hpc, hoff]
        simp only [List.length_append, List.length_cons]
        omega
      generalize hpiece : stuffL (wLeaf l) = piece at hpc hpos hlb hlen hby
      generalize fileB ((lsE F).take n) = pr at hpc hoff
      walk_at "sp"
      refine ⟨fun m σ H1 => ∃ j, σ = L2.start n_LeafReader_next_leaf [.ref o] ∧ m = piece.length - j ∧ j ≤ piece.length ∧ Adv (· = o) G H G H1 ∧ Cl (· = o) H G H1 o (lrO K dx d (off F n) (off F n + j) n (if n = 0 then 0 else F.stamp) (lastOf F n) hv tv ev uv p),
        ⟨piece.length, 0, rfl, rfl, Nat.zero_le _, A, co⟩, ?_⟩
      rintro m σ H1 ⟨j, rfl, rfl, hj, A1, c1⟩
      have hlen2 : (((fileB (lsE F)).map V.int).length : Int) = (fileB (lsE F)).length := by rw [List.length_map]
      have at_ : ∀ x, (piece ++ (0 :: ((lsE F).drop (n + 1)).flatMap lfB))[j]? = some x → ((fileB (lsE F)).map V.int)[off F n + j]? = some (.int x) := fun x hx => by
        rw [List.getElem?_map, hpc, List.append_assoc, hoff, List.getElem?_append_right (by omega), Nat.add_sub_cancel_left, hx]
        rfl
      by_cases hjl : j < piece.length
      · have hx : piece[j]? = some (piece[j]'hjl) := List.getElem?_eq_getElem hjl
        have hxp : 0 < piece[j] := (hby _ (List.getElem_mem _)).1
        generalize piece[j] = x at hx hxp
        walk_at "sp"
        refine S_ixL (A1.l hd) (atI_n (by omega) (at_ x (by rw [List.getElem?_append_left hjl]; exact hx))) ?_
        walk_at "sp"
        refine ⟨fun σ' H' => _, fun σ' H' z => z, ?_⟩
        walk_at "sp"
        refine sf_LeafReader_scan T A1 c1 fun H2 A2 c2 _ => ?_
        walk_at "sp"
        exact ⟨piece.length - (j + 1), by omega, j + 1, rfl, rfl, by omega, A2, c2⟩
      · obtain rfl : j = piece.length := by omega
        walk_at "sp"
        refine S_ixL (A1.l hd) (atI_n (by omega) (at_ 0 (by rw [List.getElem?_append_right (Nat.le_refl _), Nat.sub_self]; rfl))) ?_
        walk_at "sp"
        refine S_slL (A1.l hd) (S_newF A1 fun p2 G2 H2 A2 g2 hp2 mm => ?_)
        have c2 := mm _ _ c1
        clear mm
        walk_at "sp"
        have lw := chunk_lt fv (n := n) okl
        refine ⟨G2, .ref p2, wLeaf l, _, A2.gh, rfl, rp_ints ?_, (wBase_bys okl).app (fourB_bys _), by omega, S_postI A2 fun p3 G3 H3 A3 B3 hp3 => ?_⟩
        · rw [hp2, hpiece, cut_nat (by omega) (by rw [List.length_map]; omega), ← List.map_drop, ← List.map_take, hpc, List.append_assoc, hoff, List.drop_left, Nat.add_sub_cancel_left, List.take_left]
        have c3 := c2.call B3
        walk_at "sp"
        refine ⟨G3, .ref p3, l, _, A3.gh, rfl, rp_ints hp3, okl, fun v G4 H4 B4 rv => ?_⟩
        have A4 := A3.call B4
        have c4 := c3.call B4
        walk_at "sp"
        refine ⟨F, n, l, G4, o, dx, d, v, _, _, _, _, _, _, p, cs, A4.gh, rfl, fv, hl, rv, ?_, c4.h, c4.g, A4.gg _ _ hd, lr.nocs, lr.ph.mono A4 (fun z => nop z.symm) ncs, fun G5 H5 hv' tv' ev' uv' cs' B5 h5 ph5 hcs => ?_⟩
        · by_cases z : n = 0
          · exact .inl z
          · exact .inr (if_neg z)
        obtain ⟨a, b, rfl, ha, hb⟩ := rv.lf
        have nocs' : o ∉ cs' := fun h => (hcs o h).elim lr.nocs fun z => by rw [c4.h] at z; cases z
        have ncs' : ∀ c ∈ cs', ¬ c = o := fun c hc z => nocs' (z ▸ hc)
        have AA := (A4.mono up).trans B5 fun q h => .inl h
        have AF : Adv (· = o) G5 H5 G5 H5 := .refl AA.gh
        have cF : Cl (· = o) H5 G5 H5 o _ := ⟨.inl rfl, AA.nw o lr.go (by rw [lr.ob]; exact fun z => nomatch z), h5⟩
        walk_at "sp"
        refine S_ixT (qt AA.gh (B5.gg _ _ ha)) rfl ?_
        walk_at "sp"
        refine sf_LeafReader_last T AF cF fun H6 A6 c6 _ => ?_
        walk_at "sp"
        refine sf_LeafReader_count T A6 c6 fun H7 A7 c7 _ => ?_
        walk_at "sp"
        refine sf_LeafReader_scan T A7 c7 fun H8 A8 c8 _ => ?_
        walk_at "sp"
        refine sf_LeafReader_at T A8 c8 fun H9 A9 c9 _ => ?_
        walk_at "sp"
        have e9 : off F (n + 1) = off F n + piece.length + 1 := by omega
        refine q1 l hl _ _ _ _ _ _ _ cs' (AA.trans A9 fun q h => .inl (.inl h)) (rv.mono (B5.gg.trans A9.gg)) ⟨?_, c9.g, A9.gg _ _ (B5.gg _ _ (A4.gg _ _ hd)), ph5.mono A9 (fun z => nop z.symm) ncs', nocs'⟩ fun c hc => (hcs c hc).imp id fun z => A4.fresh z
        rw [c9.h, e9, if_neg (Nat.succ_ne_zero n), lastOf_succ hl]
        rfl
end
/-! w23 -/
section
variable {P : Program} {w : World} {K : PySem.W.Frag} {mg : Str → Option Value} {base : Heap}
theorem lr_next {M : Addr → Prop} {G0 H0 G H : Hp} {F : Fl} {n : Nat} {o dx d p : Addr} {hv tv ev uv : V} {cs : List Addr} {Q : VK} {E : XK} (fv : FV F) (A : Adv M G0 H0 G H) (lr : LR K F n G H o dx d p hv tv ev uv cs) (fr : ∀ q, Mr o p cs q → M q ∨ H0 q = none) (hn : n ≤ (lsE F).length)
    (q1 : ∀ l, (lsE F)[n]? = some l → ∀ v G' H' hv' tv' ev' uv' cs', Adv M G0 H0 G' H' → Same G G' → Rp G' v (LfD l) → LR K F (n + 1) G' H' o dx d p hv' tv' ev' uv' cs' → (∀ q, Mr o p cs' q → M q ∨ H0 q = none) → (∀ x y, Cl M H0 G H x y → ¬ Mr o p cs x → Cl M H0 G' H' x y ∧ ¬ Mr o p cs' x) → Q v H')
    (q2 : n = (lsE F).length → Q .non H) : sp_LeafReader_next_leaf K [.ref o] H Q E := by
  refine ⟨F, n, G, o, dx, d, hv, tv, ev, uv, p, cs, A.gh, rfl, fv, lr, hn, fun l hl v G' H' hv' tv' ev' uv' cs' B rv lr' hcs => ?_, q2⟩
  refine q1 l hl v G' H' hv' tv' ev' uv' cs' (A.trans B fr) B.gg rv lr' (fun q hq => ?_) fun x y c nm => ⟨c.callM B nm, fun hq => ?_⟩
  · rcases hq with h | h | h
    · exact fr q (.inl h)
    · exact fr q (.inr (.inl h))
    · exact (hcs q h).elim (fun z => fr q (.inr (.inr z))) fun z => .inr (A.fresh z)
  · rcases hq with h | h | h
    · exact nm (.inl h)
    · exact nm (.inr (.inl h))
    · exact (hcs x h).elim (fun z => nm (.inr (.inr z))) fun z => by rw [c.h] at z; cases z
def sp_LeafReader_finish (K : PySem.W.Frag) : Sp := fun vs H Q _ => ∃ (G : Hp) (o dx d : Addr) (a s c st : Nat) (hv tv ev uv : V) (p : Addr) (bs : List Int), Same G H ∧ vs = [.ref o] ∧ H o = some (lrO K dx d a s c st 4 hv tv ev uv p) ∧ G d = some (.lst (bs.map V.int)) ∧ 1 ≤ bs.length ∧ Q .non H
theorem sc_LeafReader_finish : FnScope n_LeafReader_finish p_LeafReader_finish (defScope s_LeafReader_finish) := ⟨rfl, rfl, rfl, by decide +kernel, rfl, by decide +kernel, by decide +kernel⟩
theorem ok_LeafReader_finish (T : Facts K mg) : FnOk P w K mg base CX0 1 (mA K "LeafReader" "finish") (mD K "LeafReader" "finish") p_LeafReader_finish (sp_LeafReader_finish K) := by
  refine T.LeafReader_finish.F.ok sc_LeafReader_finish (fun vs H Q E h => ?_) (fun cdv A outer s H vs Q E hr h => ?_)
  · obtain ⟨G, o, dx, d, a, s, c, st, hv, tv, ev, uv, p, bs, _, rfl, _⟩ := h
    rfl
  · obtain ⟨G, o, dx, d, a, s, c, st, hv, tv, ev, uv, p, bs, sG, rfl, ho, hd, hl, q⟩ := h
    refine ⟨_, PSs.nox (pss_cons (ps_if (pt_cmpR op_eq (pe_callB call_len_seq rfl T.z_len bi_len (pa_cons (pe_fld (pv 0) rfl) pa_nil)) pe_int (nomark _))
    pss_never
    pss_nil)
  (pss_cons (ps_if (pt_cmpR op_eq (pe_fld (pv 0) rfl) (pe_gi rfl T.g_END) (nomark _))
    (pss_one ps_retN)
    pss_nil)
  (pss_cons (ps_if (pt_cmpR op_lt (pe_fld (pv 0) rfl) (pe_callB call_len_seq rfl T.z_len bi_len (pa_cons (pe_fld (pv 0) rfl) pa_nil)) (nomark _))
    pss_never
    pss_nil)
  (pss_one ps_never)))), ?_⟩
    have co : Cl (· = o) H (fun _ => none) H o _ := ⟨.inl rfl, rfl, ho⟩
    walk_at "sp"
    exact q
def sp_LeafReader_extend (K : PySem.W.Frag) : Sp := fun vs H Q _ => ∃ (G : Hp) (o dx d : Addr) (a s c st : Nat) (last : Int) (hv tv ev uv r : V) (p : Addr) (bs : List Int), Same G H ∧ vs = [.ref o, r] ∧ H o = some (lrO K dx d a s c st last hv tv ev uv p) ∧ G d = none ∧ H d = some (.lst []) ∧ Rp G r (IntsD bs) ∧ bs.length ≤ 1000000 ∧
  (∀ H', Adv (· = d) G H G H' → H' d = some (.lst (bs.map V.int)) → Q .non H')
theorem sc_LeafReader_extend : FnScope n_LeafReader_extend p_LeafReader_extend (defScope s_LeafReader_extend) := ⟨rfl, rfl, rfl, by decide +kernel, rfl, by decide +kernel, by decide +kernel⟩
theorem ok_LeafReader_extend (T : Facts K mg) : FnOk P w K mg base CX0 1 (mA K "LeafReader" "extend") (mD K "LeafReader" "extend") p_LeafReader_extend (sp_LeafReader_extend K) := by
  refine T.LeafReader_extend.F.ok sc_LeafReader_extend (fun vs H Q E h => ?_) (fun cdv A outer s H vs Q E hr h => ?_)
  · obtain ⟨G, o, dx, d, a, s, c, st, last, hv, tv, ev, uv, r, p, bs, _, rfl, _⟩ := h
    rfl
  · obtain ⟨G, o, dx, d, a, s, c, st, last, hv, tv, ev, uv, r, p, bs, sG, rfl, ho, gd, hd, rr, hl, q⟩ := h
    obtain ⟨b, rfl, hb⟩ := rr.ints
    refine ⟨_, PSs.nox (pss_one (ps_expr (pe_bm PySem.F.plainAttrs_list PySem.F.slot_list_extend PySem.F.type_list_extend mt_extend (pe_fld (pv 0) rfl) (pa_cons (pv 1) pa_nil)))), ?_⟩
    have A : Adv (· = d) G H G H := .refl sG
    have co : Cl (· = o) H (fun _ => none) H o _ := ⟨.inl rfl, rfl, ho⟩
    have cd : Cl (· = d) H G H d _ := ⟨.inl rfl, gd, hd⟩
    walk_at "sp"
    refine S_ext A cd (A.at hb) (by rw [List.length_map]; simp; omega) fun H2 A2 c2 _ => ?_
    exact q _ A2 c2.h
def sp_LeafReader_init (K : PySem.W.Frag) : Sp := fun vs H Q _ => ∃ (G : Hp) (o dx : Addr), Same G H ∧ vs = [.ref o] ∧ G o = none ∧ H o = some (.ins (cA K "LeafReader") dx []) ∧
  (∀ G' H' d p hv tv ev uv, Adv (· = o) G H G' H' → H' o = some (lrO K dx d 1 1 0 0 (-1) hv tv ev uv p) → Rp G' tv (.list []) → Rp G' ev (.list []) → Cl (· = o) H G' H' d (.lst []) → H d = none → Cl (· = o) H G' H' p (.dK []) → H p = none → Q .non H')
theorem sc_LeafReader_init : FnScope n_LeafReader_init p_LeafReader_init (defScope s_LeafReader_init) := ⟨rfl, rfl, rfl, by decide +kernel, rfl, by decide +kernel, by decide +kernel⟩
theorem ok_LeafReader_init (T : Facts K mg) : FnOk P w K mg base CX0 1 (mA K "LeafReader" "__init__") (mD K "LeafReader" "__init__") p_LeafReader_init (sp_LeafReader_init K) := by
  refine T.LeafReader_init.F.ok sc_LeafReader_init (fun vs H Q E h => ?_) (fun cdv A outer s H vs Q E hr h => ?_)
  · obtain ⟨G, o, dx, _, rfl, _⟩ := h
    rfl
  · obtain ⟨G, o, dx, sG, rfl, go, ho, q⟩ := h
    refine ⟨_, PSs.nox (pss_cons (ps_fld (pv 0) (pe_lst pa_nil) rfl)
  (pss_cons (ps_fld (pv 0) pe_int rfl)
  (pss_cons (ps_fld (pv 0) pe_int rfl)
  (pss_cons (ps_fld (pv 0) pe_int rfl)
  (pss_cons (ps_fld (pv 0) pe_int rfl)
  (pss_cons (ps_fld (pv 0) (pe_un un_neg pe_int) rfl)
  (pss_cons (ps_fld (pv 0) (pe_tup (pa_cons pe_int (pa_cons pe_int (pa_cons (pe_lst pa_nil) pa_nil)))) rfl)
  (pss_cons (ps_fld (pv 0) (pe_lst pa_nil) rfl)
  (pss_cons (ps_fld (pv 0) (pe_lst pa_nil) rfl)
  (pss_cons (ps_fld (pv 0) (pe_lst pa_nil) rfl)
  (pss_one (ps_fld (pv 0) pe_dnewK rfl)))))))))))), ?_⟩
    have A : Adv (· = o) G H G H := .refl sG
    have co : Cl (· = o) H G H o _ := ⟨.inl rfl, go, ho⟩
    walk_at "sp"
    refine ⟨Nat.zero_le _, S_newM A fun d H1 A1 cd fd mm => ?_⟩
    obtain ⟨c1, n1⟩ := mm _ _ co
    clear mm
    walk_at "sp"
    refine S_sf A1 c1 T.cl_LeafReader T.na_LeafReader_data (Nat.le_of_ble_eq_true rfl) rfl fun H2 A2 c2 mm => ?_
    have cd2 := mm _ _ cd n1.symm
    clear mm
    walk_at "sp"
    refine S_sf A2 c2 T.cl_LeafReader T.na_LeafReader_at (Nat.le_of_ble_eq_true rfl) rfl fun H3 A3 c3 mm => ?_
    have cd3 := mm _ _ cd2 n1.symm
    clear mm
    walk_at "sp"
    refine S_sf A3 c3 T.cl_LeafReader T.na_LeafReader_scan (Nat.le_of_ble_eq_true rfl) rfl fun H4 A4 c4 mm => ?_
    have cd4 := mm _ _ cd3 n1.symm
    clear mm
    walk_at "sp"
    refine S_sf A4 c4 T.cl_LeafReader T.na_LeafReader_count (Nat.le_of_ble_eq_true rfl) rfl fun H5 A5 c5 mm => ?_
    have cd5 := mm _ _ cd4 n1.symm
    clear mm
    walk_at "sp"
    refine S_sf A5 c5 T.cl_LeafReader T.na_LeafReader_stamp (Nat.le_of_ble_eq_true rfl) rfl fun H6 A6 c6 mm => ?_
    have cd6 := mm _ _ cd5 n1.symm
    clear mm
    walk_at "sp"
    refine S_sf A6 c6 T.cl_LeafReader T.na_LeafReader_last (Nat.le_of_ble_eq_true rfl) rfl fun H7 A7 c7 mm => ?_
    have cd7 := mm _ _ cd6 n1.symm
    clear mm
    walk_at "sp"
    refine ⟨Nat.zero_le _, S_newF A7 fun p8 G8 H8 A8 g8 hp8 mm => ?_⟩
    have cd8 := mm _ _ cd7
    have c8 := mm _ _ c7
    clear mm
    walk_at "sp"
    refine ⟨line_le (by simp), S_newF A8 fun p9 G9 H9 A9 g9 hp9 mm => ?_⟩
    have cd9 := mm _ _ cd8
    have c9 := mm _ _ c8
    clear mm
    walk_at "sp"
    refine S_sf A9 c9 T.cl_LeafReader T.na_LeafReader_head (Nat.le_of_ble_eq_true rfl) rfl fun H10 A10 c10 mm => ?_
    have cd10 := mm _ _ cd9 n1.symm
    clear mm
    walk_at "sp"
    refine ⟨Nat.zero_le _, S_newF A10 fun p11 G11 H11 A11 g11 hp11 mm => ?_⟩
    have cd11 := mm _ _ cd10
    have c11 := mm _ _ c10
    clear mm
    walk_at "sp"
    refine S_sf A11 c11 T.cl_LeafReader T.na_LeafReader_tags (Nat.le_of_ble_eq_true rfl) rfl fun H12 A12 c12 mm => ?_
    have cd12 := mm _ _ cd11 n1.symm
    clear mm
    walk_at "sp"
    refine ⟨Nat.zero_le _, S_newF A12 fun p13 G13 H13 A13 g13 hp13 mm => ?_⟩
    have cd13 := mm _ _ cd12
    have c13 := mm _ _ c12
    clear mm
    walk_at "sp"
    refine S_sf A13 c13 T.cl_LeafReader T.na_LeafReader_entries (Nat.le_of_ble_eq_true rfl) rfl fun H14 A14 c14 mm => ?_
    have cd14 := mm _ _ cd13 n1.symm
    clear mm
    walk_at "sp"
    refine ⟨Nat.zero_le _, S_newF A14 fun p15 G15 H15 A15 g15 hp15 mm => ?_⟩
    have cd15 := mm _ _ cd14
    have c15 := mm _ _ c14
    clear mm
    walk_at "sp"
    refine S_sf A15 c15 T.cl_LeafReader T.na_LeafReader_units (Nat.le_of_ble_eq_true rfl) rfl fun H16 A16 c16 mm => ?_
    have cd16 := mm _ _ cd15 n1.symm
    clear mm
    walk_at "sp"
    refine S_newM A16 fun p H17 A17 cp fp mm => ?_
    obtain ⟨c17, n17⟩ := mm _ _ c16
    obtain ⟨cd17, _⟩ := mm _ _ cd16
    clear mm
    walk_at "sp"
    refine S_sf A17 c17 T.cl_LeafReader T.na_LeafReader_places (Nat.le_of_ble_eq_true rfl) rfl fun H18 A18 c18 mm => ?_
    have cd18 := mm _ _ cd17 n1.symm
    have cp18 := mm _ _ cp n17.symm
    clear mm
    walk_at "sp"
    exact q _ _ d p _ _ _ _ A18 c18.h (.lst (g15 _ _ (g13 _ _ hp11)) .nil) (.lst (g15 _ _ hp13) .nil) cd18 fd cp18 fp
end
/-! w24 -/
section
variable {P : Program} {w : World} {K : PySem.W.Frag} {mg : Str → Option Value} {base : Heap}
def isU (l : Lf) : Bool := decide (l.kind = 2)
theorem lsE_us_all {F : Fl} (fv : FV F) : (lsE F).filter isU = F.us := by
  have h1 : (pre F).filter isU = [] := by
    unfold pre
    split <;> rfl
  have h2 : F.us.filter isU = F.us := List.filter_eq_self.mpr fun l hl => by
    obtain ⟨i, hi⟩ := List.mem_iff_getElem?.mp hl
    exact decide_eq_true (fv.un i l hi).kind
  rw [lsE, lsI, lsU, List.filter_append, List.filter_append, List.filter_append, h1, h2]
  simp [isU, pl]
theorem ph0 (F : Fl) {M : Addr → Prop} {H0 G H : Hp} {hv tv ev uv : V} {p : Addr} (tg : Rp G tv (.list [])) (en : Rp G ev (.list [])) (cp : Cl M H0 G H p (.dK [])) : Ph F 0 G H hv tv ev uv p [] := by
  have p1 := pre_le F
  refine ⟨fun z => by omega, tg, ?_, fun z => by omega, rfl, fun k c h => by simp at h, List.nodup_nil, [], cp.g, cp.h, Nat.le_refl _, fun i l h => by omega⟩
  rw [if_neg (by omega)]
  exact en
theorem LR.mono {F : Fl} {n : Nat} {G H G' H' : Hp} {o dx d p : Addr} {hv tv ev uv : V} {cs : List Addr} (lr : LR K F n G H o dx d p hv tv ev uv cs) {M : Addr → Prop} (A : Adv M G H G' H') (h : ∀ q, Mr o p cs q → ¬ M q) : LR K F n G' H' o dx d p hv tv ev uv cs :=
  ⟨A.kp o _ (h o (.inl rfl)) lr.ob, A.nw o lr.go (by rw [lr.ob]; exact fun z => nomatch z), A.gg _ _ lr.dt, lr.ph.mono A (h p (.inr (.inl rfl))) (fun c hc => h c (.inr (.inr hc))), lr.nocs⟩
abbrev CkD (F : Fl) : PyData := .tuple [HeadD F.tk F.sk F.rows, .list (F.tags.map TagD), .list (F.us.map LfD), .list (F.es.map EntD)]
def sp_checked_leaves : Sp := fun vs H Q _ => ∃ (F : Fl) (G : Hp) (r : V), Same G H ∧ vs = [r] ∧ Rp G r (IntsD (fileB (lsE F))) ∧ FV F ∧ Post G H Q fun v G' => Rp G' v (CkD F)
theorem sc_checked_leaves : FnScope n_checked_leaves p_checked_leaves (defScope s_checked_leaves) := ⟨rfl, rfl, rfl, by decide +kernel, rfl, by decide +kernel, by decide +kernel⟩
theorem ok_checked_leaves (T : Facts K mg) : FnOk P w K mg base CX0 9 (fA K "checked_leaves") (fD K "checked_leaves") p_checked_leaves sp_checked_leaves := by
  refine T.checked_leaves.F.ok sc_checked_leaves (fun vs H Q E h => ?_) (fun cdv A outer s H vs Q E hr h => ?_)
  · obtain ⟨F, G, r, _, rfl, _⟩ := h
    rfl
  · obtain ⟨F, G, r, sG, rfl, hr0, fv, q⟩ := h
    refine ⟨_, PSs.nox (pss_cons (ps_set (i := 1) sc_checked_leaves.nd rfl (.inl rfl) (pe_make0 T.mk_LeafReader (ok_LeafReader_init T) (hr.mono (by decide)) (by rfl) T.g_LeafReader T.LeafReader_init.b .nil pass0))
  (pss_cons (ps_expr (pe_meth (pv 1) T.cl_LeafReader T.m_LeafReader_extend (ok_LeafReader_extend T) (hr.mono (by decide)) T.LeafReader_extend.b .nil pass0 (pa_cons (pv 0) pa_nil)))
  (pss_cons (ps_set (i := 2) sc_checked_leaves.nd rfl (.inl rfl) (pe_lst pa_nil))
  (pss_cons (ps_set (i := 3) sc_checked_leaves.nd rfl (.inl rfl) (pe_meth0 (pv 1) T.cl_LeafReader T.m_LeafReader_next_leaf (ok_LeafReader_next_leaf T) (hr.mono (by decide)) T.LeafReader_next_leaf.b .nil pass0))
  (pss_cons (ps_while PassesOwn.never (pt_cmpR op_notN (pv 3) pe_non (nomark _))
    (pss_cons (ps_if (pt_cmpR op_eq (pe_ix ix_tup (pv 3) pe_int (fun _ _ => rfl)) (pe_gi rfl T.g_UNIT) (nomark _))
    (pss_one (ps_expr (pe_bm PySem.F.plainAttrs_list PySem.F.slot_list_append PySem.F.type_list_append mt_append (pv 2) (pa_cons (pv 3) pa_nil))))
    pss_nil)
  (pss_one (ps_set (i := 3) sc_checked_leaves.nd rfl (.inl rfl) (pe_meth0 (pv 1) T.cl_LeafReader T.m_LeafReader_next_leaf (ok_LeafReader_next_leaf T) (hr.mono (by decide)) T.LeafReader_next_leaf.b .nil pass0)))))
  (pss_cons (ps_expr (pe_meth0 (pv 1) T.cl_LeafReader T.m_LeafReader_finish (ok_LeafReader_finish T) (hr.mono (by decide)) T.LeafReader_finish.b .nil pass0))
  (pss_one (ps_ret (pe_tup (pa_cons (pe_fld (pv 1) rfl) (pa_cons (pe_fld (pv 1) rfl) (pa_cons (pv 2) (pa_cons (pe_fld (pv 1) rfl) pa_nil))))))))))))), ?_⟩
    have A : Adv0 G H G H := .refl sG
    have fl := file_len fv
    have fp := fileB_pos (lsE F)
    walk_at "sp"
    refine S_mk A fun o dx H1 A1 c1 fo mm => ?_
    clear mm
    refine ⟨G, o, dx, A1.gh, rfl, c1.g, c1.h, fun G2 H2 d p hv tv ev uv B2 h2 rt re cd fd cp fpp => ⟨rfl, ?_⟩⟩
    have A2 := c1.trans A1 B2
    have c2 : Cl No H G2 H2 o _ := c1.meth B2 h2
    walk_at "sp"
    refine ⟨G2, o, dx, d, _, _, _, _, _, _, _, _, _, r, p, fileB (lsE F), A2.gh, rfl, c2.h, cd.g, cd.h, hr0.mono A2.gg, by omega, fun H3 B3 h3 => ?_⟩
    have nod : o ≠ d := fun z => by
      have := cd.h
      rw [← z, h2] at this
      cases this
    have npd : p ≠ d := cp.ne cd fun z => nomatch z
    have A3 := A2.trans B3 (fun q e => .inr (by subst e; exact A1.fresh fd) : ∀ q, q = d → No q ∨ H q = none)
    have c3 : Cl No H G2 H3 o _ := c2.callM B3 nod
    have cd3 : Cl No H G2 H3 d _ := ⟨.inr (A1.fresh fd), cd.g, h3⟩
    have cp3 : Cl No H G2 H3 p (.dK []) := ⟨.inr (A1.fresh fpp), cp.g, B3.kp p _ npd cp.h⟩
    have A4 := A3.still (A1.fresh fd) cd3.h cd3.g
    generalize hG4 : upd G2 d (HO.lst ((fileB (lsE F)).map V.int)) = G4 at A4
    have g24 : Same G2 G4 := by rw [← hG4]; exact same_new cd3.g
    have hd4 : G4 d = some (.lst ((fileB (lsE F)).map V.int)) := by rw [← hG4]; exact upd_same
    have c4 : Cl No H G4 H3 o _ := ⟨c3.f, by rw [← hG4, upd_ne nod]; exact c3.g, c3.h⟩
    have cp4 : Cl No H G4 H3 p (.dK []) := ⟨cp3.f, by rw [← hG4, upd_ne npd]; exact cp3.g, cp3.h⟩
    have lr0 : LR K F 0 G4 H3 o dx d p hv tv ev uv [] := ⟨by rw [show off F 0 = 1 by simp [off, fileB]]; exact c4.h, c4.g, hd4, ph0 F (rt.mono g24) (re.mono g24) cp4, fun z => nomatch z⟩
    have fr0 : ∀ q, Mr o p [] q → No q ∨ H q = none := fun q hq => by
      rcases hq with rfl | rfl | h
      · exact .inr fo
      · exact .inr (A1.fresh fpp)
      · cases h
    walk_at "sp"
    refine ⟨Nat.zero_le _, S_newM A4 fun lv H5 A5 cl flv mm => ?_⟩
    have lr5 : LR K F 0 G4 H5 o dx d p hv tv ev uv [] := ⟨(mm _ _ c4).1.h.trans (c4.h.symm.trans lr0.ob), c4.g, hd4, ph0 F (rt.mono g24) (re.mono g24) (mm _ _ cp4).1, fun z => nomatch z⟩
    have nlv : ¬ Mr o p [] lv := fun hq => by
      rcases hq with h | h | h
      · exact (mm _ _ c4).2 h.symm
      · exact (mm _ _ cp4).2 h.symm
      · cases h
    clear mm
    walk_at "sp"
    refine S_me lr5.ob rfl ?_
    walk_at "sp"
    have hN := lsE_len F
    refine lr_next fv A5 lr5 fr0 (Nat.zero_le _) (fun l hl v G6 H6 hv tv ev uv cs A6 g6 rv lr6 fr6 mm => ?_) (fun z => by omega)
    obtain ⟨cl6, nlv6⟩ := mm _ _ cl nlv
    clear mm
    walk_at "sp"
    refine ⟨fun m σ H1 => ∃ (n k : Nat) (hv tv ev uv : V) (cs : List Addr) (G1 : Hp) (vs : List V) (x : V), σ = [some r, some (.ref o), some (.ref lv), some x] ∧ Adv0 G H G1 H1 ∧ LR K F n G1 H1 o dx d p hv tv ev uv cs ∧ (∀ q, Mr o p cs q → No q ∨ H q = none) ∧ Cl No H G1 H1 lv (.lst vs) ∧ ¬ Mr o p cs lv ∧
      RpL G1 vs ((((lsE F).take k).filter isU).map LfD) ∧ vs.length ≤ k ∧ ((∃ l, (lsE F)[k]? = some l ∧ Rp G1 x (LfD l) ∧ n = k + 1 ∧ m = (lsE F).length + 1 - k) ∨ (x = .non ∧ n = (lsE F).length ∧ k = (lsE F).length ∧ m = 0)),
      ⟨(lsE F).length + 1, 1, 0, hv, tv, ev, uv, cs, G6, [], v, rfl, A6, lr6, fr6, cl6, nlv6, .nil, Nat.zero_le _, .inl ⟨l, hl, rv, rfl, rfl⟩⟩, ?_⟩
    rintro m σ H1 ⟨n, k, hv, tv, ev, uv, cs, G1, vs, x, rfl, A1', lr, fr, cl, nlv, rl, lvs, hcase⟩
    rcases hcase with ⟨l, hl, rx, rfl, rfl⟩ | ⟨rfl, rfl, rfl, rfl⟩
    · have hk := (List.getElem?_eq_some_iff.mp hl).1
      have us := fv.usL
      have pp := pre_le F
      obtain ⟨a, b, rfl, ha, hb⟩ := rx.lf
      walk_at "sp"
      refine ⟨fun σ' H' => _, fun σ' H' z => z, ?_⟩
      walk_at "sp"
      have next : ∀ (G2 H2 : Hp) (vs2 : List V), Adv0 G H G2 H2 → LR K F (k + 1) G2 H2 o dx d p hv tv ev uv cs → Cl No H G2 H2 lv (.lst vs2) → RpL G2 vs2 ((((lsE F).take (k + 1)).filter isU).map LfD) → vs2.length ≤ k + 1 → ∀ Q2 : VK, (∀ v H3, (∃ m', m' < (lsE F).length + 1 - k ∧ ∃ (n k : Nat) (hv tv ev uv : V) (cs : List Addr) (G1 : Hp) (vs : List V) (x : V), [some r, some (.ref o), some (.ref lv), some v] = [some r, some (.ref o), some (.ref lv), some x] ∧ Adv0 G H G1 H3 ∧ LR K F n G1 H3 o dx d p hv tv ev uv cs ∧ (∀ q, Mr o p cs q → No q ∨ H q = none) ∧ Cl No H G1 H3 lv (.lst vs) ∧ ¬ Mr o p cs lv ∧
      RpL G1 vs ((((lsE F).take k).filter isU).map LfD) ∧ vs.length ≤ k ∧ ((∃ l, (lsE F)[k]? = some l ∧ Rp G1 x (LfD l) ∧ n = k + 1 ∧ m' = (lsE F).length + 1 - k) ∨ (x = .non ∧ n = (lsE F).length ∧ k = (lsE F).length ∧ m' = 0))) → Q2 v H3) → sp_LeafReader_next_leaf K [.ref o] H2 Q2 E0 := fun G2 H2 vs2 A2 lr2 cl2 rl2 l2 Q2 hq => by
        refine lr_next fv A2 lr2 fr (by omega) (fun l3 hl3 v G3 H3 hv3 tv3 ev3 uv3 cs3 A3 g3 rv lr3 fr3 mm => ?_) (fun z => ?_)
        · obtain ⟨cl3, nlv3⟩ := mm _ _ cl2 nlv
          exact hq v H3 ⟨(lsE F).length + 1 - (k + 1), by omega, k + 1 + 1, k + 1, hv3, tv3, ev3, uv3, cs3, G3, vs2, v, rfl, A3, lr3, fr3, cl3, nlv3, rl2.mono g3, l2, .inl ⟨l3, hl3, rv, rfl, rfl⟩⟩
        · exact hq .non H2 ⟨0, by omega, k + 1, k + 1, hv, tv, ev, uv, cs, G2, vs2, .non, rfl, A2, lr2, fr, cl2, nlv, rl2, l2, .inr ⟨rfl, z, z, rfl⟩⟩
      have hsn : ((lsE F).take (k + 1)).filter isU = ((lsE F).take k).filter isU ++ if l.kind = 2 then [l] else [] := by
        rw [take_snoc hl, List.filter_append]
        by_cases h : l.kind = 2
        · rw [if_pos h]
          simp [isU, h]
        · rw [if_neg h]
          simp [isU, h]
      by_cases hk2 : l.kind = 2
      · rw [if_pos hk2] at hsn
        walk_at "sp"
        have AL : Adv (· = lv) G1 H1 G1 H1 := .refl A1'.gh
        have cL : Cl (· = lv) H1 G1 H1 lv (.lst vs) := ⟨.inl rfl, cl.g, cl.h⟩
        refine S_app' AL cL (by omega) fun H2 B2 cl2 mm => ?_
        have A2 := A1'.trans B2 fun q e => .inr (by subst e; exact flv)
        have cl3 : Cl No H G1 H2 lv _ := ⟨.inr flv, cl2.g, cl2.h⟩
        have lr2 := lr.mono B2 fun q hq e => nlv (e ▸ hq)
        walk_at "sp"
        refine S_me lr2.ob rfl ?_
        walk_at "sp"
        refine next _ _ _ A2 lr2 cl3 (by rw [hsn, List.map_append]; exact rl.snoc rx) (by rw [List.length_append]; simp; omega) _ fun v H3 h => ?_
        walk_at "sp"
        exact h
      · rw [if_neg hk2, List.append_nil] at hsn
        walk_at "sp"
        refine S_me lr.ob rfl ?_
        walk_at "sp"
        refine next _ _ vs A1' lr cl (by rw [hsn]; exact rl) (by omega) _ fun v H3 h => ?_
        walk_at "sp"
        exact h
    · have us := fv.usL
      have e4 : lastOf F (lsE F).length = 4 := by
        rw [hN]
        exact lastOf_succ (lsE_E F)
      have hob := lr.ob
      rw [e4] at hob
      walk_at "sp"
      refine S_me hob rfl ?_
      walk_at "sp"
      refine ⟨G1, o, dx, d, _, _, _, _, _, _, _, _, p, _, A1'.gh, rfl, hob, lr.dt, fp, ?_⟩
      have co : Cl (fun _ => True) H G1 H1 o _ := ⟨.inl trivial, lr.go, hob⟩
      walk_at "sp"
      refine ⟨line_le (by simp), ?_⟩
      have A2 := A1'.still flv cl.h cl.g
      refine S_newF A2 fun p3 G3 H3 A3 g3 hp3 _ => ?_
      have g13 := (same_new (u := HO.lst vs) cl.g).trans g3
      rw [List.take_length, lsE_us_all fv] at rl
      have tg := lr.ph.tg
      have en := lr.ph.en
      have p1 := pre_le F
      rw [if_pos (by omega)] at tg en
      exact q _ _ _ A3 (.tup hp3 (.cons ((lr.ph.hd (by omega)).mono g13) (.cons (tg.mono g13) (.cons (.lst (g3 _ _ upd_same) (rl.mono g13)) (.cons (en.mono g13) .nil)))))
end
/-! w25 -/
section
variable {P : Program} {w : World} {K : PySem.W.Frag} {mg : Str → Option Value} {base : Heap}
/-! ### leaves by track -/
theorem freeze_all {M : Addr → Prop} {G0 H0 H : Hp} : ∀ (cs : List Addr) {G : Hp}, Adv M G0 H0 G H → cs.Nodup → (∀ c ∈ cs, H0 c = none ∧ G c = none ∧ ∃ u, H c = some u) → ∃ G', Adv M G0 H0 G' H ∧ Same G G' ∧ ∀ c ∈ cs, G' c = H c
  | [], G, A, _, _ => ⟨G, A, .refl G, fun _ z => nomatch z⟩
  | c :: cs, G, A, nd, h => by
    obtain ⟨h1, h2, u, h3⟩ := h c List.mem_cons_self
    rw [List.nodup_cons] at nd
    have A1 := A.still h1 h3 h2
    obtain ⟨G', A2, g2, hc⟩ := freeze_all cs A1 nd.2 fun x hx => by
      obtain ⟨k1, k2, k3⟩ := h x (List.mem_cons_of_mem _ hx)
      have n : x ≠ c := fun z => nd.1 (by rw [← z]; exact hx)
      exact ⟨k1, by rw [upd_ne n]; exact k2, k3⟩
    refine ⟨G', A2, (same_new h2).trans g2, fun x hx => ?_⟩
    rcases List.mem_cons.mp hx with rfl | hx
    · rw [h3]
      exact g2 _ _ upd_same
    · exact hc x hx
structure Mv where
  time : Nat
  span : Nat
  key : Nat
  body : List Int
abbrev MvD (m : Mv) : PyData := .tuple [.int m.time, .int m.span, .int m.key, IntsD m.body]
theorem Rp.mv {G : Hp} {v : V} {m : Mv} (h : Rp G v (MvD m)) : ∃ a b, v = .ref a ∧ G a = some (.tup [.int m.time, .int m.span, .int m.key, .ref b]) ∧ G b = some (.lst (m.body.map V.int)) := by
  obtain ⟨a, vs, rfl, ha, rl⟩ := h.tuple
  rcases rl with _ | ⟨⟨⟩, _ | ⟨⟨⟩, _ | ⟨⟨⟩, _ | ⟨rb, _ | _⟩⟩⟩⟩
  obtain ⟨b, rfl, hb⟩ := rb.ints
  exact ⟨a, b, rfl, ha, hb⟩
def sp_moved : Sp := fun vs H Q _ => ∃ (G : Hp) (r : V) (l : Lf) (t : Int) (n : Nat), Same G H ∧ vs = [r, .int t] ∧ Rp G r (LfD l) ∧ (l.time : Int) + t = n ∧ Post G H Q fun v G' => Rp G' v (MvD ⟨n, l.span, l.key, l.body⟩)
theorem sc_moved : FnScope n_moved p_moved (defScope s_moved) := ⟨rfl, rfl, rfl, by decide +kernel, rfl, by decide +kernel, by decide +kernel⟩
theorem ok_moved (T : Facts K mg) : FnOk P w K mg base CX0 1 (fA K "moved") (fD K "moved") p_moved sp_moved := by
  refine T.moved.F.ok sc_moved (fun vs H Q E h => ?_) (fun cdv A outer s H vs Q E hr h => ?_)
  · obtain ⟨G, r, l, t, n, _, rfl, _⟩ := h
    rfl
  · obtain ⟨G, r, l, t, n, sG, rfl, hr0, hn, q⟩ := h
    obtain ⟨a, b, rfl, ha, hb⟩ := hr0.lf
    refine ⟨_, PSs.nox (pss_one (ps_ret (pe_tup (pa_cons (pe_op op_add (pe_ix ix_tup (pv 0) (pe_gi rfl T.g_TIME) (fun _ _ => rfl)) (pv 1)) (pa_cons (pe_ix ix_tup (pv 0) (pe_gi rfl T.g_SPAN) (fun _ _ => rfl)) (pa_cons (pe_ix ix_tup (pv 0) (pe_gi rfl T.g_KEY) (fun _ _ => rfl)) (pa_cons (pe_ix ix_tup (pv 0) (pe_gi rfl T.g_BODY) (fun _ _ => rfl)) pa_nil))))))), ?_⟩
    have A : Adv0 G H G H := .refl sG
    walk_at "sp"
    refine ⟨line_le (by simp), S_newF A fun p1 G1 H1 A1 g1 hp1 _ => ?_⟩
    refine q _ _ _ A1 (.tup hp1 (.cons ?_ (.cons (.int _) (.cons (.int _) (.cons (rp_ints (A1.gg _ _ hb)) .nil)))))
    rw [hn]
    exact .int _
abbrev trkD (n : Nat) (us : List Lf) : PyData := .list ((List.range n).map fun k => .list ((trk (k + 1) us).map LfD))
def sp_by_track : Sp := fun vs H Q _ => ∃ (G : Hp) (r1 r2 : V) (tk sk : Nat) (rows : List RowT) (us : List Lf), Same G H ∧ vs = [r1, r2] ∧ Rp G r1 (HeadD tk sk rows) ∧ Rp G r2 (.list (us.map LfD)) ∧ rows.length ≤ 100 ∧ us.length ≤ 1000 ∧ (∀ l ∈ us, 1 ≤ l.track ∧ l.track ≤ rows.length) ∧ Post G H Q fun v G' => Rp G' v (trkD rows.length us)
theorem sc_by_track : FnScope n_by_track p_by_track (defScope s_by_track) := ⟨rfl, rfl, rfl, by decide +kernel, rfl, by decide +kernel, by decide +kernel⟩
theorem ok_by_track (T : Facts K mg) : FnOk P w K mg base CX0 1 (fA K "by_track") (fD K "by_track") p_by_track sp_by_track := by
  refine T.by_track.F.ok sc_by_track (fun vs H Q E h => ?_) (fun cdv A outer s H vs Q E hr h => ?_)
  · obtain ⟨G, r1, r2, tk, sk, rows, us, _, rfl, _⟩ := h
    rfl
  · obtain ⟨G, r1, r2, tk, sk, rows, us, sG, rfl, hr1, hr2, l1, l2, hus, q⟩ := h
    obtain ⟨ah, rh, xs, rfl, hah, hrh, hx⟩ := (Rp.hd3 (F := ⟨0, tk, sk, rows, [], [], []⟩) hr1)
    obtain ⟨u, ys, rfl, hu, hy⟩ := hr2.list
    have lx : xs.length = rows.length := by rw [hx.len, List.length_map]
    have ly : ys.length = us.length := by rw [hy.len, List.length_map]
    refine ⟨_, PSs.nox (pss_cons (ps_setLc (i := 2) (own := [("_", 3)]) rfl sc_by_track.nd rfl rfl (sw_true rfl rfl rfl (by decide +kernel)) (pi_list (pe_ix ix_tup (pv 0) pe_int (fun _ _ => rfl))) (blkOk_by (own := [("_", 3)]) (N := n_by_track) (sc := defScope s_by_track) (by decide +kernel)) (fun _ _ _ _ _ => (pg_name (i := 3) sc_by_track.nd rfl (.inl rfl))) (fun _ _ _ _ _ => pts_nil) (fun _ _ _ _ _ => (pe_lst pa_nil)))
  (pss_cons (ps_for PassesOwn.never rfl (pi_list (pv 1)) (pg_name (i := 4) sc_by_track.nd rfl (.inl rfl))
    (pss_one (ps_expr (pe_bm PySem.F.plainAttrs_list PySem.F.slot_list_append PySem.F.type_list_append mt_append (pe_ix ix_list (pv 2) (pe_op op_sub (pe_ix ix_tup (pv 4) (pe_gi rfl T.g_TRACK) (fun _ _ => rfl)) pe_int) (fun _ _ => rfl)) (pa_cons (pv 4) pa_nil)))))
  (pss_one (ps_ret (pv 2))))), ?_⟩
    have A : Adv0 G H G H := .refl sG
    walk_at "sp"
    refine S_lcC sG hrh (by omega) (fun _ => rfl) fun D G1 H1 cs A1 hD hl hnd hcs => ?_
    walk_at "sp"
    refine S_forL (xs := ys) (fun i σ H2 => ∃ (x3 x4 : Option V) (G2 : Hp), σ = [some (.ref ah), some (.ref u), some (.ref D), x3, x4] ∧ Adv0 G H G2 H2 ∧ Same G1 G2 ∧ ∀ k c, cs[k]? = some c → ∃ vs, Cl No H G2 H2 c (.lst vs) ∧ RpL G2 vs ((trk (k + 1) (us.take i)).map LfD))
      ⟨none, none, G1, rfl, A1, .refl _, fun k c hk => ?_⟩ (fun i σ H2 _ ⟨_, _, G2, _, A2, _⟩ => A2.l hu) ?_ ?_
    · obtain ⟨e1, e2, e3⟩ := hcs c (List.mem_of_getElem? hk)
      exact ⟨[], ⟨.inr e1, e2, e3⟩, .nil⟩
    · rintro i x σ H2 hxi ⟨x3, x4, G2, rfl, A2, g12, hc⟩
      obtain ⟨d, hd, rx⟩ := hy.getV hxi
      obtain ⟨l, hli, rfl⟩ := get_map_inv hd
      have hi := (List.getElem?_eq_some_iff.mp hli).1
      obtain ⟨t1, t2⟩ := hus l (List.mem_of_getElem? hli)
      obtain ⟨k, hk⟩ : ∃ k, l.track = k + 1 := ⟨l.track - 1, by omega⟩
      have hci : cs[k]? = some (cs[k]'(by omega)) := List.getElem?_eq_getElem (by omega)
      generalize cs[k]'(by omega) = c at hci
      obtain ⟨vs, cc, rc⟩ := hc k c hci
      obtain ⟨a, b, rfl, ha, hb⟩ := rx.lf
      have lvs : vs.length ≤ us.length := by
        rw [rc.len, List.length_map]
        exact Nat.le_trans (List.length_filter_le _ _) (by rw [List.length_take]; omega)
      walk_at "sp"
      refine S_ixL (ql A2.gh (g12 _ _ hD)) (atI_n (j := k) (by omega) (get_map hci)) ?_
      refine S_ty cc.l ?_
      walk_at "sp"
      refine S_app' A2 cc (by omega) fun H3 A3 c3 mm => ?_
      refine ⟨_, _, G2, rfl, A3, g12, fun k' c' hk' => ?_⟩
      rw [take_snoc hli, trk_snoc]
      by_cases ck : k' = k
      · subst ck
        rw [hci] at hk'
        cases hk'
        refine ⟨_, c3, ?_⟩
        rw [← hk, if_pos rfl, List.map_append]
        rw [← hk] at rc
        exact rc.snoc (.mono A2.gg (rp_lf ha hb))
      · obtain ⟨vs', c1, r1⟩ := hc k' c' hk'
        have nc' : c' ≠ c := fun z => ck (by
          subst z
          have h1 := (List.getElem?_eq_some_iff.mp hk').1
          exact (List.getElem?_inj h1 hnd).mp (hk'.trans hci.symm))
        rw [if_neg (by omega), List.append_nil]
        exact ⟨vs', mm _ _ c1 nc', r1⟩
    · rintro σ H2 ⟨x3, x4, G2, rfl, A2, g12, hc⟩
      rw [ly, List.take_length] at hc
      walk_at "sp"
      obtain ⟨G3, A3, g3, hf⟩ := freeze_all cs A2 hnd fun c hcm => by
        obtain ⟨k, hk⟩ := List.mem_iff_getElem?.mp hcm
        obtain ⟨vs, c1, _⟩ := hc k c hk
        exact ⟨(hcs c hcm).1, c1.g, _, c1.h⟩
      refine q _ _ _ A3 (.lst (g3 _ _ (g12 _ _ hD)) ?_)
      have gen : ∀ (n : Nat) (cs' : List Addr) (j : Nat), cs'.length = n → (∀ k c, cs'[k]? = some c → ∃ vs, G3 c = some (.lst vs) ∧ RpL G3 vs ((trk (j + k + 1) us).map LfD)) → RpL G3 (cs'.map V.ref) ((List.range' j n).map fun k => .list ((trk (k + 1) us).map LfD)) := by
        intro n
        induction n with
        | zero =>
          intro cs' j hl _
          rw [List.length_eq_zero_iff.mp hl]
          exact .nil
        | succ n ih =>
          intro cs' j hl h
          cases cs' with
          | nil => cases hl
          | cons c cs' =>
            obtain ⟨vs, e, r⟩ := h 0 c rfl
            refine .cons (.lst e r) (ih cs' (j + 1) (Nat.succ.inj hl) fun k c hk => ?_)
            have := h (k + 1) c hk
            rw [show j + 1 + k + 1 = j + (k + 1) + 1 by omega]
            exact this
      rw [List.range_eq_range']
      refine gen _ cs 0 (by omega) fun k c hk => ?_
      obtain ⟨vs, c1, r1⟩ := hc k c hk
      refine ⟨vs, by rw [hf c (List.mem_of_getElem? hk)]; exact c1.h, ?_⟩
      rw [Nat.zero_add]
      exact r1.mono g3
end
/-! w26 -/
section
variable {P : Program} {w : World} {K : PySem.W.Frag} {mg : Str → Option Value} {base : Heap}
/-! ### the index -/
def lastKF (bs : List Bool) (first : Nat) : Nat → Option Nat
  | 0 => none
  | c + 1 => if bs[first + c]? = some true then some (first + c) else lastKF bs first c
def optV : Option Nat → V
  | some p => .int p
  | none => .non
theorem lastKF_ok {bs : List Bool} {first : Nat} : ∀ {c p : Nat}, lastKF bs first c = some p → first ≤ p ∧ p < first + c ∧ bs[p]? = some true
  | c + 1, p, h => by
    unfold lastKF at h
    split at h
    · rename_i hb
      cases h
      exact ⟨by omega, by omega, hb⟩
    · have := lastKF_ok h
      exact ⟨this.1, by omega, this.2.2⟩
abbrev BlsD (bs : List Bool) : PyData := .list (bs.map PyData.bool)
theorem Rp.bls {G : Hp} {v : V} {bs : List Bool} (h : Rp G v (BlsD bs)) : ∃ a, v = .ref a ∧ G a = some (.lst (bs.map V.bl)) := by
  cases h with
  | lst e r => exact ⟨_, rfl, by rw [e, RpL.bls_inv r]⟩
def sp_last_key : Sp := fun vs H Q _ => ∃ (G : Hp) (r : V) (bs : List Bool) (first c : Nat), Same G H ∧ vs = [r, .int first, .int ((first + c : Nat) - 1 : Int)] ∧ Rp G r (BlsD bs) ∧ 1 ≤ first ∧ first + c ≤ bs.length ∧ bs.length ≤ 10000 ∧ Q (optV (lastKF bs first c)) H
theorem sc_last_key : FnScope n_last_key p_last_key (defScope s_last_key) := ⟨rfl, rfl, rfl, by decide +kernel, rfl, by decide +kernel, by decide +kernel⟩
theorem ok_last_key (T : Facts K mg) : FnOk P w K mg base CX0 1 (fA K "last_key") (fD K "last_key") p_last_key sp_last_key := by
  refine T.last_key.F.ok sc_last_key (fun vs H Q E h => ?_) (fun cdv A outer s H vs Q E hr h => ?_)
  · obtain ⟨G, r, bs, first, c, _, rfl, _⟩ := h
    rfl
  · obtain ⟨G, r, bs, first, c, sG, rfl, hr0, l0, l1, l2, q⟩ := h
    obtain ⟨a, rfl, ha⟩ := hr0.bls
    refine ⟨_, PSs.nox (pss_cons (ps_for PassesOwn.never rfl (pi_range3 rfl T.z_range (pa_cons (pv 2) (pa_cons (pe_op op_sub (pv 1) pe_int) (pa_cons (pe_un un_neg pe_int) pa_nil)))) (pg_name (i := 3) sc_last_key.nd rfl (.inl rfl))
    (pss_one (ps_if (pt_val (pe_ix ix_list (pv 0) (pv 3) (fun _ _ => rfl)))
    (pss_one (ps_ret (pv 3)))
    pss_nil)))
  (pss_one (ps_ret pe_non))), ?_⟩
    walk_at "sp"
    refine S_rn3 (k := c) (by omega) (by omega) (S_forC (fun i σ H1 => ∃ x, σ = [some (.ref a), some (.int first), some (.int ((first + c : Nat) - 1 : Int)), x] ∧ H = H1 ∧ i ≤ c ∧ lastKF bs first (c - i) = lastKF bs first c) ⟨none, rfl, rfl, Nat.zero_le _, rfl⟩ ?_ ?_)
    · rintro i σ H1 hi ⟨x, rfl, rfl, _, e⟩
      have hb : bs[first + (c - i - 1)]? = some (bs[first + (c - i - 1)]'(by omega)) := List.getElem?_eq_getElem (by omega)
      generalize bs[first + (c - i - 1)]'(by omega) = b at hb
      have e1 : lastKF bs first (c - i) = if bs[first + (c - i - 1)]? = some true then some (first + (c - i - 1)) else lastKF bs first (c - i - 1) := by
        rw [show c - i = (c - i - 1) + 1 by omega]
        rfl
      walk_at "sp"
      refine S_ixL (ql sG ha) (atI_n (j := first + (c - i - 1)) (by omega) (get_map hb)) ?_
      cases b with
      | true =>
        walk_at "sp"
        rw [hb, if_pos rfl] at e1
        rw [← e, e1] at q
        have ei : (((first + c : Nat) : Int) - 1 + (i : Nat) * (-1)) = ((first + (c - i - 1) : Nat) : Int) := by omega
        rw [ei]
        exact q
      | false =>
        walk_at "sp"
        rw [hb, if_neg (fun z => nomatch z)] at e1
        refine ⟨_, rfl, rfl, by omega, ?_⟩
        rw [← e, e1]
        congr 1
    · rintro σ H1 ⟨x, rfl, rfl, _, e⟩
      walk_at "sp"
      rw [Nat.sub_self] at e
      rw [← e] at q
      exact q
def greedyF (bs : List Bool) (w : Nat) : Nat → Nat → Option (List Nat)
  | 0, _ => some []
  | f + 1, st => if st + w < bs.length then match lastKF bs (st + 1) w with
    | none => none
    | some s => (greedyF bs w f s).map (s :: ·)
    else some []
def OptL (G : Hp) (v : V) : Option PyData → Prop
  | none => v = .non
  | some d => Rp G v d
def sp_greedy : Sp := fun vs H Q _ => ∃ (G : Hp) (r : V) (bs : List Bool) (w : Nat), Same G H ∧ vs = [r, .int w] ∧ Rp G r (BlsD bs) ∧ 1 ≤ w ∧ bs.length ≤ 1000 ∧ Post G H Q fun v G' => OptL G' v ((greedyF bs w bs.length 0).map fun ps => IntsD (ps.map fun n : Nat => (n : Int)))
theorem sc_greedy : FnScope n_greedy p_greedy (defScope s_greedy) := ⟨rfl, rfl, rfl, by decide +kernel, rfl, by decide +kernel, by decide +kernel⟩
theorem ok_greedy (T : Facts K mg) : FnOk P w K mg base CX0 2 (fA K "greedy") (fD K "greedy") p_greedy sp_greedy := by
  refine T.greedy.F.ok sc_greedy (fun vs H Q E h => ?_) (fun cdv A outer s H vs Q E hr h => ?_)
  · obtain ⟨G, r, bs, w, _, rfl, _⟩ := h
    rfl
  · obtain ⟨G, r, bs, w, sG, rfl, hr0, l0, l2, q⟩ := h
    obtain ⟨a, rfl, ha⟩ := hr0.bls
    refine ⟨_, PSs.nox (pss_cons (ps_set (i := 2) sc_greedy.nd rfl (.inl rfl) (pe_lst pa_nil))
  (pss_cons (ps_set (i := 3) sc_greedy.nd rfl (.inl rfl) pe_int)
  (pss_cons (ps_while PassesOwn.never (pt_cmpR op_lt (pe_op op_add (pv 3) (pv 1)) (pe_callB call_len_seq rfl T.z_len bi_len (pa_cons (pv 0) pa_nil)) (nomark _))
    (pss_cons (ps_set (i := 3) sc_greedy.nd rfl (.inl rfl) (pe_call (ok_last_key T) (hr.mono (by decide)) (by rfl) T.last_key.g T.last_key.kp T.last_key.b .nil pass0 (pa_cons (pv 0) (pa_cons (pe_op op_add (pv 3) pe_int) (pa_cons (pe_op op_add (pv 3) (pv 1)) pa_nil)))))
  (pss_cons (ps_if (pt_cmpR op_isN (pv 3) pe_non (nomark _))
    (pss_one (ps_ret pe_non))
    pss_nil)
  (pss_one (ps_expr (pe_bm PySem.F.plainAttrs_list PySem.F.slot_list_append PySem.F.type_list_append mt_append (pv 2) (pa_cons (pv 3) pa_nil)))))))
  (pss_one (ps_ret (pv 2)))))), ?_⟩
    have A : Adv0 G H G H := .refl sG
    walk_at "sp"
    refine ⟨Nat.zero_le _, S_newM A fun o H1 A1 co fo _ => ?_⟩
    walk_at "sp"
    refine ⟨fun m σ H2 => ∃ (st : Nat) (acc : List Nat), σ = [some (.ref a), some (.int w), some (.ref o), some (.int st)] ∧ Adv0 G H G H2 ∧ Cl No H G H2 o (.lst (acc.map fun n : Nat => V.int n)) ∧ acc.length + m = bs.length ∧ acc.length ≤ st ∧ (greedyF bs w m st).map (acc ++ ·) = greedyF bs w bs.length 0,
      ⟨bs.length, 0, [], rfl, A1, co, by simp, Nat.zero_le _, by simp⟩, ?_⟩
    rintro m σ H2 ⟨st, acc, rfl, A2, co, lm, la, e⟩
    by_cases c : st + w < bs.length
    · obtain ⟨m, rfl⟩ : ∃ k, m = k + 1 := ⟨m - 1, by omega⟩
      have hG : greedyF bs w (m + 1) st = match lastKF bs (st + 1) w with
        | none => none
        | some s => (greedyF bs w m s).map (s :: ·) := by
        rw [greedyF, if_pos c]
      walk_at "sp"
      refine ⟨fun σ' H' => _, fun σ' H' z => z, ?_⟩
      walk_at "sp"
      refine ⟨G, .ref a, bs, st + 1, w, A2.gh, ?_, hr0, by omega, by omega, by omega, ?_⟩
      · rw [show (((st + 1 + w : Nat) : Int) - 1) = (st : Int) + (w : Nat) by omega]
        rfl
      cases hk : lastKF bs (st + 1) w with
      | none =>
        rw [hk] at hG
        rw [hG] at e
        rw [show optV none = V.non from rfl]
        walk_at "sp"
        refine q .non _ _ A2 ?_
        rw [← e]
        rfl
      | some s =>
        have hs := lastKF_ok hk
        rw [hk] at hG
        rw [hG] at e
        rw [show optV (some s) = V.int s from rfl]
        walk_at "sp"
        refine S_df (fun z => nomatch z) ?_
        walk_at "sp"
        refine S_app' A2 co (by rw [List.length_map]; omega) fun H3 A3 co _ => ?_
        refine ⟨m, by omega, s, acc ++ [s], rfl, A3, co.as (by simp), by simp; omega, by simp; omega, ?_⟩
        rw [← e, Option.map_map]
        congr 1
        funext l
        simp
    · walk_at "sp"
      have hG : greedyF bs w m st = some [] := by
        cases m with
        | zero => rw [greedyF]
        | succ m => rw [greedyF, if_neg c]
      rw [hG] at e
      have A3 := A2.still fo co.h co.g
      refine q _ _ _ A3 ?_
      rw [← e]
      refine rp_ints ?_
      rw [upd_same]
      simp
end
/-! w27 -/
section
variable {P : Program} {w : World} {K : PySem.W.Frag} {mg : Str → Option Value} {base : Heap}
def giF (w : Nat) : Nat → List (List Bool) → Option (List (Nat × Nat))
  | _, [] => some []
  | k, bs :: r => match greedyF bs w bs.length 0 with
    | none => none
    | some ps => (giF w (k + 1) r).map (ps.map (fun p => (k + 1, p)) ++ ·)
theorem greedyF_len {bs : List Bool} {w : Nat} : ∀ {f st : Nat} {ps : List Nat}, greedyF bs w f st = some ps → ps.length ≤ f
  | 0, st, ps, h => by
    rw [greedyF] at h
    cases h
    exact Nat.le_refl _
  | f + 1, st, ps, h => by
    rw [greedyF] at h
    split at h
    · split at h
      · cases h
      · obtain ⟨qs, h1, rfl⟩ := Option.map_eq_some_iff.mp h
        have := greedyF_len h1
        simp only [List.length_cons]
        omega
    · cases h
      exact Nat.zero_le _
theorem greedyF_ok {bs : List Bool} {w : Nat} : ∀ {f st : Nat} {ps : List Nat}, greedyF bs w f st = some ps → ∀ p ∈ ps, 1 ≤ p ∧ bs[p]? = some true
  | 0, st, ps, h, p, hp => by
    rw [greedyF] at h
    cases h
    cases hp
  | f + 1, st, ps, h, p, hp => by
    rw [greedyF] at h
    split at h
    · split at h
      · cases h
      · rename_i s hs
        obtain ⟨qs, h1, rfl⟩ := Option.map_eq_some_iff.mp h
        rcases List.mem_cons.mp hp with rfl | hp
        · have := lastKF_ok hs
          exact ⟨by omega, this.2.2⟩
        · exact greedyF_ok h1 p hp
    · cases h
      cases hp
def IdxOk (keys : List (List Bool)) (e : Nat × Nat) : Prop := ∃ k bs, e.1 = k + 1 ∧ keys[k]? = some bs ∧ 1 ≤ e.2 ∧ bs[e.2]? = some true
theorem giF_ok {w : Nat} : ∀ {r : List (List Bool)} {k : Nat} {es : List (Nat × Nat)}, giF w k r = some es → ∀ e ∈ es, ∃ j bs, e.1 = k + j + 1 ∧ r[j]? = some bs ∧ 1 ≤ e.2 ∧ bs[e.2]? = some true
  | [], k, es, h, e, he => by
    rw [giF] at h
    cases h
    cases he
  | bs :: r, k, es, h, e, he => by
    rw [giF] at h
    split at h
    · cases h
    · rename_i ps hps
      obtain ⟨qs, h1, rfl⟩ := Option.map_eq_some_iff.mp h
      rcases List.mem_append.mp he with he | he
      · obtain ⟨p, hp, rfl⟩ := List.mem_map.mp he
        have := greedyF_ok hps p hp
        exact ⟨0, bs, rfl, rfl, this.1, this.2⟩
      · obtain ⟨j, b, h2, h3, h4⟩ := giF_ok h1 e he
        exact ⟨j + 1, b, by omega, h3, h4⟩
abbrev PairD (e : Nat × Nat) : PyData := .tuple [.int e.1, .int e.2]
def sp_greedy_index : Sp := fun vs H Q _ => ∃ (G : Hp) (r : V) (keys : List (List Bool)) (w : Nat), Same G H ∧ vs = [r, .int w] ∧ Rp G r (.list (keys.map BlsD)) ∧ 1 ≤ w ∧ keys.length ≤ 100 ∧ (∀ bs ∈ keys, bs.length ≤ 100) ∧ Post G H Q fun v G' => OptL G' v ((giF w 0 keys).map fun es => .list (es.map PairD))
theorem sc_greedy_index : FnScope n_greedy_index p_greedy_index (defScope s_greedy_index) := ⟨rfl, rfl, rfl, by decide +kernel, rfl, by decide +kernel, by decide +kernel⟩
theorem ok_greedy_index (T : Facts K mg) : FnOk P w K mg base CX0 3 (fA K "greedy_index") (fD K "greedy_index") p_greedy_index sp_greedy_index := by
  refine T.greedy_index.F.ok sc_greedy_index (fun vs H Q E h => ?_) (fun cdv A outer s H vs Q E hr h => ?_)
  · obtain ⟨G, r, keys, w, _, rfl, _⟩ := h
    rfl
  · obtain ⟨G, r, keys, w, sG, rfl, hr0, l0, l1, l2, q⟩ := h
    obtain ⟨a, xs, rfl, ha, hx⟩ := hr0.list
    have lx : xs.length = keys.length := by rw [hx.len, List.length_map]
    refine ⟨_, PSs.nox (pss_cons (ps_set (i := 2) sc_greedy_index.nd rfl (.inl rfl) (pe_lst pa_nil))
  (pss_cons (ps_for PassesOwn.never rfl (pi_range1 rfl T.z_range (pa_cons (pe_callB call_len_seq rfl T.z_len bi_len (pa_cons (pv 0) pa_nil)) pa_nil)) (pg_name (i := 3) sc_greedy_index.nd rfl (.inr rfl))
    (pss_cons (ps_set (i := 4) sc_greedy_index.nd rfl (.inl rfl) (pe_call (ok_greedy T) (hr.mono (by decide)) (by rfl) T.greedy.g T.greedy.kp T.greedy.b .nil pass0 (pa_cons (pe_ix ix_list (pv 0) (pv 3) (fun _ _ => rfl)) (pa_cons (pv 1) pa_nil))))
  (pss_cons (ps_if (pt_cmpR op_isN (pv 4) pe_non (nomark _))
    (pss_one (ps_ret pe_non))
    pss_nil)
  (pss_one (ps_expr (pe_bm PySem.F.plainAttrs_list PySem.F.slot_list_extend PySem.F.type_list_extend mt_extend (pv 2) (pa_cons (pe_lc (own := [("place", 5)]) rfl sc_greedy_index.nd (pi_list (pv 4)) (blkOk_by (own := [("place", 5)]) (N := n_greedy_index) (sc := defScope s_greedy_index) (by decide +kernel)) (fun _ _ _ _ _ => (pg_name (i := 5) sc_greedy_index.nd rfl (.inl rfl))) (fun _ _ _ _ _ => pts_nil) (fun _ _ _ _ _ => (pe_tup (pa_cons (pe_op op_add (pv 3) pe_int) (pa_cons (pv 5) pa_nil))))) pa_nil)))))))
  (pss_one (ps_ret (pv 2))))), ?_⟩
    have A : Adv0 G H G H := .refl sG
    walk_at "sp"
    refine ⟨Nat.zero_le _, S_newM A fun o H1 A1 co fo _ => ?_⟩
    walk_at "sp"
    refine S_rn1 (k := keys.length) (by rw [lx]) (by omega) (S_forR (fun i σ H2 => ∃ (x3 x4 x5 : Option V) (G2 : Hp) (vs : List V) (acc : List (Nat × Nat)), σ = [some (.ref a), some (.int w), some (.ref o), x3, x4, x5] ∧ Adv0 G H G2 H2 ∧ Cl No H G2 H2 o (.lst vs) ∧ RpL G2 vs (acc.map PairD) ∧ acc.length ≤ 100 * i ∧ (giF w i (keys.drop i)).map (acc ++ ·) = giF w 0 keys)
      ⟨none, none, none, G, [], [], rfl, A1, co, .nil, by simp, by simp⟩ ?_ ?_)
    · rintro i σ H2 hi ⟨x3, x4, x5, G2, vs, acc, rfl, A2, co, rl, la, e⟩
      have hki : keys[i]? = some (keys[i]'hi) := List.getElem?_eq_getElem hi
      have lbs := l2 _ (List.getElem_mem hi)
      generalize keys[i]'hi = bs at hki lbs
      obtain ⟨v, hv, rv⟩ := hx.get (get_map hki)
      rw [drop_cons hki] at e
      walk_at "sp"
      refine S_ixL (A2.l ha) (atI_n (Int.zero_add _) hv) ?_
      walk_at "sp"
      refine ⟨G2, v, bs, w, A2.gh, rfl, rv.mono A2.gg, l0, by omega, fun v3 G3 H3 B3 r3 => ?_⟩
      have A3 := A2.call B3
      have co := co.call B3
      cases hg : greedyF bs w bs.length 0 with
      | none =>
        rw [hg] at r3
        obtain rfl : v3 = .non := r3
        walk_at "sp"
        refine q .non _ _ A3 ?_
        rw [← e, giF, hg]
        rfl
      | some ps =>
        rw [hg] at r3
        obtain ⟨b, rfl, hb⟩ := Rp.ints (ns := ps.map fun n : Nat => (n : Int)) r3
        have lps := greedyF_len hg
        walk_at "sp"
        refine S_lcL (ds := (ps.map fun n : Nat => (n : Int)).map PyData.int) (fun d => match d with | .int p => some (.tuple [.int ((i + 1 : Nat) : Int), .int p]) | _ => none) A3.gh hb (.ints _) (by simp; omega) (fun j x d G4 H4 hxj hd A4 rx Qy Qn qy _ => ?_) (fun D G4 H4 ys A4 hD r => ?_)
        · obtain ⟨ic, hic, rfl⟩ := get_map_inv hd
          cases rx
          walk_at "sp"
          refine ⟨rfl, ?_⟩
          walk_at "sp"
          refine ⟨line_le (by simp), S_newF (M := No) (G0 := G4) (H0 := H4) (.refl A4.gh) fun p5 G5 H5 A5 g5 hp5 _ => ?_⟩
          refine qy _ rfl _ _ _ A5 (.tup hp5 (.cons ?_ (.cons (.int _) .nil)))
          rw [show (0 : Int) + (i : Nat) + 1 = ((i + 1 : Nat) : Int) by omega]
          exact .int _
        · have co := co.call A4
          have A4' := A3.call A4
          have ef : ((ps.map fun n : Nat => (n : Int)).map PyData.int).filterMap (fun d => match d with | .int p => some (PyData.tuple [.int ((i + 1 : Nat) : Int), .int p]) | _ => none) = (ps.map fun p => (i + 1, p)).map PairD := by
            rw [List.map_map, List.map_map, List.filterMap_map, ← List.filterMap_eq_map]
            rfl
          rw [ef] at r
          have lys := r.len
          have lvs := rl.len
          simp only [List.length_map] at lys lvs
          walk_at "sp"
          refine S_ext A4' co (A4'.at hD) (by omega) fun H5 A5 co _ => ?_
          refine ⟨_, _, _, G4, _, acc ++ ps.map (fun p => (i + 1, p)), rfl, A5, co, ?_, by simp; omega, ?_⟩
          · rw [List.map_append]
            exact (rl.mono (B3.gg.trans A4.gg)).app r
          · rw [← e, giF, hg, Option.map_map]
            congr 1
            funext l
            simp
    · rintro σ H2 ⟨x3, x4, x5, G2, vs, acc, rfl, A2, co, rl, la, e⟩
      rw [List.drop_length, giF] at e
      walk_at "sp"
      have A3 := A2.still fo co.h co.g
      refine q _ _ _ A3 ?_
      rw [← e]
      refine .lst upd_same ?_
      have : ((fun x => acc ++ x) ([] : List (Nat × Nat))) = acc := by simp
      rw [this]
      exact rl.mono (same_new co.g)
end
/-! w28 -/
section
variable {P : Program} {w : World} {K : PySem.W.Frag} {mg : Str → Option Value} {base : Heap}
theorem giF_full {w : Nat} : ∀ {r : List (List Bool)} {k : Nat}, (∀ bs ∈ r, bs.length ≤ w) → giF w k r = some []
  | [], _, _ => rfl
  | bs :: r, k, h => by
    have h1 := h bs List.mem_cons_self
    have hg : greedyF bs w bs.length 0 = some [] := by
      cases e : bs.length with
      | zero => rw [greedyF]
      | succ n => rw [greedyF, if_neg (by omega)]
    rw [giF, hg]
    rw [giF_full fun b hb => h b (List.mem_cons_of_mem _ hb)]
    rfl
theorem S_max {H : Hp} {Q : VK} {a : Addr} {ns : List Int} (s : SqL K H a (ns.map V.int)) (l : 0 < ns.length) (h : ∀ m, m ∈ ns → (∀ y, y ∈ ns → y ≤ m) → Q (.int m) H) : rMax K [.ref a] H Q := ⟨a, ns, rfl, s, l, h⟩
theorem S_min {H : Hp} {Q : VK} {a : Addr} {ns : List Int} (s : SqL K H a (ns.map V.int)) (l : 0 < ns.length) (h : ∀ m, m ∈ ns → (∀ y, y ∈ ns → m ≤ y) → Q (.int m) H) : rMin K [.ref a] H Q := ⟨a, ns, rfl, s, l, h⟩
theorem fm_map {α : Type} (ds : List α) (f : α → PyData) (g : PyData → Option PyData) (k : α → PyData) (h : ∀ x ∈ ds, g (f x) = some (k x)) : (ds.map f).filterMap g = ds.map k := by
  induction ds with
  | nil => rfl
  | cons x ds ih =>
    rw [List.map_cons, List.filterMap_cons, h x List.mem_cons_self, List.map_cons, ih fun y hy => h y (List.mem_cons_of_mem _ hy)]
def maxN (ns : List Nat) : Nat := ns.foldr max 0
theorem maxN_ge : ∀ {ns : List Nat} {n : Nat}, n ∈ ns → n ≤ maxN ns
  | m :: ns, n, h => by
    show n ≤ max m (maxN ns)
    rcases List.mem_cons.mp h with rfl | h
    · exact Nat.le_max_left _ _
    · exact Nat.le_trans (maxN_ge h) (Nat.le_max_right _ _)
theorem maxN_mem : ∀ (ns : List Nat), maxN ns ∈ ns ++ [0]
  | [] => List.mem_cons_self
  | m :: ns => by
    have ih := maxN_mem ns
    show max m (maxN ns) ∈ _
    rcases Nat.le_total m (maxN ns) with h | h
    · rw [Nat.max_eq_right h]
      exact List.mem_cons_of_mem _ ih
    · rw [Nat.max_eq_left h]
      exact List.mem_cons_self
/-- the greatest of ns and 0 -/
theorem max_is {ns : List Nat} {m : Int} (h1 : m ∈ (ns.map fun n : Nat => (n : Int)) ++ [0]) (h2 : ∀ y ∈ (ns.map fun n : Nat => (n : Int)) ++ [0], y ≤ m) : m = maxN ns := by
  have k1 : m ≤ maxN ns := by
    rcases List.mem_append.mp h1 with h | h
    · obtain ⟨n, hn, rfl⟩ := List.mem_map.mp h
      have := maxN_ge hn
      omega
    · rw [List.mem_singleton.mp h]
      omega
  have k2 : ((maxN ns : Nat) : Int) ≤ m := h2 _ (by
    rcases List.mem_append.mp (maxN_mem ns) with h | h
    · exact List.mem_append_left _ (List.mem_map.mpr ⟨_, h, rfl⟩)
    · rw [List.mem_singleton.mp h]
      exact List.mem_append_right _ List.mem_cons_self)
  omega
def sp_end_of_units : Sp := fun vs H Q _ => ∃ (G : Hp) (r : V) (us : List Lf), Same G H ∧ vs = [r] ∧ Rp G r (.list (us.map LfD)) ∧ us.length ≤ 1000 ∧ Post G H Q fun v _ => v = .int (maxN (us.map fun l => l.time + l.span))
theorem sc_end_of_units : FnScope n_end_of_units p_end_of_units (defScope s_end_of_units) := ⟨rfl, rfl, rfl, by decide +kernel, rfl, by decide +kernel, by decide +kernel⟩
theorem ok_end_of_units (T : Facts K mg) : FnOk P w K mg base CX0 1 (fA K "end_of_units") (fD K "end_of_units") p_end_of_units sp_end_of_units := by
  refine T.end_of_units.F.ok sc_end_of_units (fun vs H Q E h => ?_) (fun cdv A outer s H vs Q E hr h => ?_)
  · obtain ⟨G, r, us, _, rfl, _⟩ := h
    rfl
  · obtain ⟨G, r, us, sG, rfl, hr0, l1, q⟩ := h
    obtain ⟨a, xs, rfl, ha, hx⟩ := hr0.list
    refine ⟨_, PSs.nox (pss_one (ps_ret (pe_callB (cr_max rfl) rfl T.z_max bi_max (pa_cons (pe_op op_cat (pe_lc (own := [("leaf", 1)]) rfl sc_end_of_units.nd (pi_list (pv 0)) (blkOk_by (own := [("leaf", 1)]) (N := n_end_of_units) (sc := defScope s_end_of_units) (by decide +kernel)) (fun _ _ _ _ _ => (pg_name (i := 1) sc_end_of_units.nd rfl (.inl rfl))) (fun _ _ _ _ _ => pts_nil) (fun _ _ _ _ _ => (pe_op op_add (pe_ix (r := rIxT K) ix_tup (pv 1) (pe_gi rfl T.g_TIME) (fun _ _ => rfl)) (pe_ix (r := rIxT K) ix_tup (pv 1) (pe_gi rfl T.g_SPAN) (fun _ _ => rfl))))) (pe_lst (pa_cons pe_int pa_nil))) pa_nil)))), ?_⟩
    have A : Adv0 G H G H := .refl sG
    walk_at "sp"
    refine S_lcL (ds := us.map LfD) (fun d => match d with | .tuple [_, _, _, _, _, .int t, .int s, _, _] => some (.int (t + s)) | _ => none) sG ha hx (by simp; omega) (fun i x d G1 H1 hxi hd A1 rx Qy Qn qy _ => ?_) (fun D G1 H1 acc A1 hD r => ?_)
    · obtain ⟨l, hl, rfl⟩ := get_map_inv hd
      obtain ⟨b, c, rfl, hb, hc⟩ := rx.lf
      walk_at "sp"
      refine ⟨rfl, ?_⟩
      walk_at "sp"
      exact qy _ rfl _ _ _ (.refl A1.gh) (.int _)
    · rw [fm_map us LfD _ (fun l => .int ((l.time + l.span : Nat) : Int)) fun l _ => rfl] at r
      have er := RpL.ints_inv (ns := (us.map fun l => l.time + l.span).map fun n : Nat => (n : Int)) (by rw [List.map_map, List.map_map]; exact r)
      subst er
      walk_at "sp"
      refine ⟨line_le (by simp), S_newF (M := No) (G0 := G) (H0 := H) A1 fun p2 G2 H2 A2 g2 hp2 _ => ?_⟩
      refine S_cat (A2.at (g2 _ _ hD)) (A2.at hp2) (by simp; omega) (S_newF A2 fun p3 G3 H3 A3 g3 hp3 _ => ?_)
      walk_at "sp"
      refine S_max (ns := ((us.map fun l => l.time + l.span).map fun n : Nat => (n : Int)) ++ [0]) (ql A3.gh (by rw [hp3]; simp)) (by simp) fun m h1 h2 => ?_
      exact q _ _ _ A3 (congrArg V.int (max_is h1 h2))
def sp_best_index : Sp := fun vs H Q _ => ∃ (G : Hp) (r : V) (keys : List (List Bool)) (c : Nat), Same G H ∧ vs = [r, .int c] ∧ Rp G r (.list (keys.map BlsD)) ∧ keys.length ≤ 100 ∧ (∀ bs ∈ keys, bs.length ≤ 100) ∧ Post G H Q fun v G' => ∃ (es : List (Nat × Nat)) (x : Int), Rp G' v (.tuple [.list (es.map PairD), .int x]) ∧ ∀ e ∈ es, IdxOk keys e
theorem sc_best_index : FnScope n_best_index p_best_index (defScope s_best_index) := ⟨rfl, rfl, rfl, by decide +kernel, rfl, by decide +kernel, by decide +kernel⟩
theorem ok_best_index (T : Facts K mg) : FnOk P w K mg base CX0 4 (fA K "best_index") (fD K "best_index") p_best_index sp_best_index := by
  refine T.best_index.F.ok sc_best_index (fun vs H Q E h => ?_) (fun cdv A outer s H vs Q E hr h => ?_)
  · obtain ⟨G, r, keys, c, _, rfl, _⟩ := h
    rfl
  · obtain ⟨G, r, keys, c, sG, rfl, hr0, l1, l2, q⟩ := h
    obtain ⟨a, xs, rfl, ha, hx⟩ := hr0.list
    refine ⟨_, PSs.nox (pss_cons (ps_set (i := 2) sc_best_index.nd rfl (.inl rfl) pe_int)
  (pss_cons (ps_set (i := 3) sc_best_index.nd rfl (.inl rfl) (pe_callB (cr_max rfl) rfl T.z_max bi_max (pa_cons (pe_op op_cat (pe_lc (own := [("row", 4)]) rfl sc_best_index.nd (pi_list (pv 0)) (blkOk_by (own := [("row", 4)]) (N := n_best_index) (sc := defScope s_best_index) (by decide +kernel)) (fun _ _ _ _ _ => (pg_name (i := 4) sc_best_index.nd rfl (.inl rfl))) (fun _ _ _ _ _ => pts_nil) (fun _ _ _ _ _ => (pe_callB (r := rLenQ K) call_len_seq rfl T.z_len bi_len (pa_cons (pv 4) pa_nil)))) (pe_lst (pa_cons pe_int pa_nil))) pa_nil)))
  (pss_cons (ps_if (pt_cmpR op_eq (pv 3) pe_int (nomark _))
    (pss_one (ps_ret (pe_tup (pa_cons (pe_lst pa_nil) (pa_cons pe_int pa_nil)))))
    pss_nil)
  (pss_cons (ps_while PassesOwn.never (pt_cmpR op_lt (pv 2) (pv 3) (nomark _))
    (pss_cons (ps_set (i := 5) sc_best_index.nd rfl (.inl rfl) (pe_op op_fdiv (pe_op op_add (pv 2) (pv 3)) pe_int))
  (pss_cons (ps_set (i := 6) sc_best_index.nd rfl (.inl rfl) (pe_call (ok_greedy_index T) (hr.mono (by decide)) (by rfl) T.greedy_index.g T.greedy_index.kp T.greedy_index.b .nil pass0 (pa_cons (pv 0) (pa_cons (pv 5) pa_nil))))
  (pss_one (ps_if (PW.pt (pw_or (pt_cmpR op_isN (pv 6) pe_non (nomark _)) (pw_or1 (pt_cmpR op_gt (pe_callB call_len_seq rfl T.z_len bi_len (pa_cons (pv 6) pa_nil)) (pv 1) (nomark _)))))
    (pss_one (ps_set (i := 2) sc_best_index.nd rfl (.inl rfl) (pe_op op_add (pv 5) pe_int)))
    (pss_one (ps_set (i := 3) sc_best_index.nd rfl (.inl rfl) (pv 5))))))))
  (pss_one (ps_ret (pe_tup (pa_cons (pe_call (ok_greedy_index T) (hr.mono (by decide)) (by rfl) T.greedy_index.g T.greedy_index.kp T.greedy_index.b .nil pass0 (pa_cons (pv 0) (pa_cons (pv 2) pa_nil))) (pa_cons (pv 2) pa_nil))))))))), ?_⟩
    have A : Adv0 G H G H := .refl sG
    walk_at "sp"
    refine S_lcL (ds := keys.map BlsD) (fun d => match d with | .list xs => some (.int xs.length) | _ => none) sG ha hx (by simp; omega) (fun i x d G1 H1 hxi hd A1 rx Qy Qn qy _ => ?_) (fun D G1 H1 acc A1 hD r => ?_)
    · obtain ⟨bs, hb, rfl⟩ := get_map_inv hd
      obtain ⟨b, rfl, hbb⟩ := rx.bls
      walk_at "sp"
      refine ⟨rfl, ?_⟩
      walk_at "sp"
      rw [List.length_map]
      exact qy (.int (bs.length : Nat)) (by show some (PyData.int (((bs.map PyData.bool).length : Nat) : Int)) = _; rw [List.length_map]) _ _ _ (.refl A1.gh) (.int _)
    · rw [fm_map keys BlsD _ (fun bs => .int ((bs.length : Nat) : Int)) fun l _ => by simp] at r
      have er := RpL.ints_inv (ns := (keys.map List.length).map fun n : Nat => (n : Int)) (by rw [List.map_map, List.map_map]; exact r)
      subst er
      walk_at "sp"
      refine ⟨line_le (by simp), S_newF (M := No) (G0 := G) (H0 := H) A1 fun p2 G2 H2 A2 g2 hp2 _ => ?_⟩
      refine S_cat (A2.at (g2 _ _ hD)) (A2.at hp2) (by simp; omega) (S_newF A2 fun p3 G3 H3 A3 g3 hp3 _ => ?_)
      walk_at "sp"
      refine S_max (ns := ((keys.map List.length).map fun n : Nat => (n : Int)) ++ [0]) (ql A3.gh (by rw [hp3]; simp)) (by simp) fun m h1 h2 => ?_
      obtain rfl := max_is h1 h2
      have hmx : ∀ bs ∈ keys, bs.length ≤ maxN (keys.map List.length) := fun bs hb => maxN_ge (List.mem_map.mpr ⟨bs, hb, rfl⟩)
      have hmb : maxN (keys.map List.length) ≤ 100 := by
        rcases List.mem_append.mp (maxN_mem (keys.map List.length)) with h | h
        · obtain ⟨bs, hb, e⟩ := List.mem_map.mp h
          rw [← e]
          exact l2 bs hb
        · rw [List.mem_singleton.mp h]
          omega
      generalize maxN (keys.map List.length) = mx at hmx hmb
      by_cases z : mx = 0
      · walk_at "sp"
        refine ⟨Nat.zero_le _, S_newF A3 fun p4 G4 H4 A4 g4 hp4 _ => ?_⟩
        walk_at "sp"
        refine ⟨line_le (by simp), S_newF A4 fun p5 G5 H5 A5 g5 hp5 _ => ?_⟩
        exact q _ _ _ A5 ⟨[], 0, .tup hp5 (.cons (.lst (g5 _ _ hp4) .nil) (.cons (.int _) .nil)), fun _ h => nomatch h⟩
      · walk_at "sp"
        refine ⟨fun m σ H4 => ∃ (low high : Nat) (x4 x5 x6 : Option V) (G4 : Hp), σ = [some (.ref a), some (.int c), some (.int low), some (.int high), x4, x5, x6] ∧ Adv0 G H G4 H4 ∧ m = high - low ∧ 1 ≤ low ∧ low ≤ high ∧ high ≤ 100 ∧ (giF high 0 keys).isSome = true,
          ⟨mx - 1, 1, mx, none, none, none, G3, rfl, A3, rfl, Nat.le_refl _, by omega, hmb, by rw [giF_full hmx]; rfl⟩, ?_⟩
        rintro m σ H4 ⟨low, high, x4, x5, x6, G4, rfl, A4, rfl, k1, k2, k3, k4⟩
        by_cases lt : low < high
        · walk_at "sp"
          refine ⟨fun σ' H' => _, fun σ' H' z => z, ?_⟩
          walk_at "sp"
          refine S_ri ⟨by decide, by decide⟩ ?_
          have em : ((low : Int) + (high : Nat)) / 2 = (((low + high) / 2 : Nat) : Int) := by omega
          rw [em]
          generalize hmid : (low + high) / 2 = mid
          walk_at "sp"
          refine ⟨G4, .ref a, keys, mid, A4.gh, rfl, hr0.mono A4.gg, by omega, l1, l2, fun v G5 H5 B5 rv => ?_⟩
          have A5 := A4.call B5
          cases hg : giF mid 0 keys with
          | none =>
            rw [hg] at rv
            obtain rfl : v = .non := rv
            walk_at "sp"
            exact ⟨high - (mid + 1), by omega, mid + 1, high, _, _, _, G5, rfl, A5, rfl, by omega, by omega, k3, k4⟩
          | some es =>
            rw [hg] at rv
            obtain ⟨b, ys, rfl, hb, hy⟩ := Rp.list (ds := es.map PairD) rv
            walk_at "sp"
            by_cases cc : (c : Int) < (ys.length : Nat)
            · walk_at "sp"
              exact ⟨high - (mid + 1), by omega, mid + 1, high, _, _, _, G5, rfl, A5, rfl, by omega, by omega, k3, k4⟩
            · walk_at "sp"
              exact ⟨mid - low, by omega, low, mid, _, _, _, G5, rfl, A5, rfl, by omega, by omega, by omega, by rw [hg]; rfl⟩
        · obtain rfl : low = high := by omega
          walk_at "sp"
          refine ⟨G4, .ref a, keys, low, A4.gh, rfl, hr0.mono A4.gg, by omega, l1, l2, fun v G5 H5 B5 rv => ?_⟩
          have A5 := A4.call B5
          cases hg : giF low 0 keys with
          | none =>
            rw [hg] at k4
            cases k4
          | some es =>
            rw [hg] at rv
            walk_at "sp"
            refine ⟨line_le (by simp), S_newF A5 fun p6 G6 H6 A6 g6 hp6 _ => ?_⟩
            refine q _ _ _ A6 ⟨es, _, .tup hp6 (.cons (Rp.mono g6 (d := .list (es.map PairD)) rv) (.cons (.int _) .nil)), fun e he => ?_⟩
            obtain ⟨j, bs, h1, h2, h3, h4⟩ := giF_ok hg e he
            exact ⟨j, bs, by omega, h2, h3, h4⟩
end
/-! w29 -/
section
variable {P : Program} {w : World} {K : PySem.W.Frag} {mg : Str → Option Value} {base : Heap}
/-! ### the writer -/
theorem lfOk_len {l : Lf} (ok : LfOk l) : (lfB l).length ≤ 2202 := by
  refine lfB_len ?_
  have o1 := ok.track
  have o2 := ok.ord
  have o3 := ok.time
  have o4 := ok.span
  have o5 := ok.len
  have l1 := putS_le (n := l.track) (by omega)
  have l2 := putS_le (n := l.ord) (by omega)
  have l3 := putS_le (n := l.time) (by omega)
  have l4 := putS_le (n := l.span) (by omega)
  have l5 := putS_le (n := l.body.length) (by omega)
  rw [wLeaf, wBase]
  simp only [List.length_append, List.length_cons, List.length_nil, fourB]
  omega
theorem wLeaf_len {l : Lf} (ok : LfOk l) : (wLeaf l).length ≤ 1100 := by
  have o1 := ok.track
  have o2 := ok.ord
  have o3 := ok.time
  have o4 := ok.span
  have o5 := ok.len
  have l1 := putS_le (n := l.track) (by omega)
  have l2 := putS_le (n := l.ord) (by omega)
  have l3 := putS_le (n := l.time) (by omega)
  have l4 := putS_le (n := l.span) (by omega)
  have l5 := putS_le (n := l.body.length) (by omega)
  rw [wLeaf, wBase]
  simp only [List.length_append, List.length_cons, List.length_nil, fourB]
  omega
theorem fileB_len {ls : List Lf} (h : ∀ l ∈ ls, LfOk l) : (fileB ls).length ≤ 1 + 2202 * ls.length := by
  have := flat_len (f := lfB) (n := 2202) fun l hl => lfOk_len (h l hl)
  rw [fileB, List.length_cons]
  omega
def sp_write_leaves : Sp := fun vs H Q _ => ∃ (G : Hp) (r : V) (ls : List Lf), Same G H ∧ vs = [r] ∧ Rp G r (.list (ls.map LfD)) ∧ (∀ l ∈ ls, LfOk l) ∧ ls.length ≤ 100 ∧ PostN G H Q ((fileB ls).map V.int)
theorem sc_write_leaves : FnScope n_write_leaves p_write_leaves (defScope s_write_leaves) := ⟨rfl, rfl, rfl, by decide +kernel, rfl, by decide +kernel, by decide +kernel⟩
theorem ok_write_leaves (T : Facts K mg) : FnOk P w K mg base CX0 3 (fA K "write_leaves") (fD K "write_leaves") p_write_leaves sp_write_leaves := by
  refine T.write_leaves.F.ok sc_write_leaves (fun vs H Q E h => ?_) (fun cdv A outer s H vs Q E hr h => ?_)
  · obtain ⟨G, r, ls, _, rfl, _⟩ := h
    rfl
  · obtain ⟨G, r, ls, sG, rfl, hr0, hok, l1, q⟩ := h
    obtain ⟨a, xs, rfl, ha, hx⟩ := hr0.list
    have lx : xs.length = ls.length := by rw [hx.len, List.length_map]
    refine ⟨_, PSs.nox (pss_cons (ps_set (i := 1) sc_write_leaves.nd rfl (.inl rfl) (pe_lst (pa_cons pe_int pa_nil)))
  (pss_cons (ps_for PassesOwn.never rfl (pi_list (pv 0)) (pg_name (i := 2) sc_write_leaves.nd rfl (.inl rfl))
    (pss_cons (ps_expr (pe_bm PySem.F.plainAttrs_list PySem.F.slot_list_extend PySem.F.type_list_extend mt_extend (pv 1) (pa_cons (pe_call (ok_stuff T) (hr.mono (by decide)) (by rfl) T.stuff.g T.stuff.kp T.stuff.b .nil pass0 (pa_cons (pe_call (ok_write_leaf T) (hr.mono (by decide)) (by rfl) T.write_leaf.g T.write_leaf.kp T.write_leaf.b .nil pass0 (pa_cons (pv 2) pa_nil)) pa_nil)) pa_nil)))
  (pss_one (ps_expr (pe_bm PySem.F.plainAttrs_list PySem.F.slot_list_append PySem.F.type_list_append mt_append (pv 1) (pa_cons pe_int pa_nil))))))
  (pss_one (ps_ret (pv 1))))), ?_⟩
    have A : Adv0 G H G H := .refl sG
    walk_at "sp"
    refine ⟨line_le (by simp), S_newM A fun o H1 A1 co fo _ => ?_⟩
    walk_at "sp"
    refine S_forL (xs := xs) (fun i σ H2 => ∃ (x2 : Option V) (G2 : Hp), σ = [some (.ref a), some (.ref o), x2] ∧ Adv0 G H G2 H2 ∧ Cl No H G2 H2 o (.lst ((fileB (ls.take i)).map V.int))) ⟨none, G, rfl, A1, co.as (by simp [fileB])⟩ (fun i σ H2 _ ⟨_, _, _, A2, _⟩ => A2.l ha) ?_ ?_
    · rintro i x σ H2 hxi ⟨x2, G2, rfl, A2, co⟩
      obtain ⟨d, hd, rx⟩ := hx.getV hxi
      obtain ⟨l, hl, rfl⟩ := get_map_inv hd
      have ok := hok l (List.mem_of_getElem? hl)
      have hi := (List.getElem?_eq_some_iff.mp hl).1
      have lf := fileB_len (ls := ls.take i) fun l hl => hok l (List.mem_of_mem_take hl)
      rw [List.length_take] at lf
      have lb := lfOk_len ok
      rw [lfB, List.length_append, List.length_cons, List.length_nil] at lb
      have lw := wLeaf_len ok
      walk_at "sp"
      refine ⟨G2, x, l, A2.gh, rfl, rx.mono A2.gg, ok, S_postI A2 fun p3 G3 H3 A3 B3 hp3 => ?_⟩
      have co := co.call B3
      walk_at "sp"
      refine ⟨G3, .ref p3, wLeaf l, A3.gh, rfl, rp_ints hp3, by omega, S_postI A3 fun p4 G4 H4 A4 B4 hp4 => ?_⟩
      have co := co.call B4
      walk_at "sp"
      refine S_ext A4 co (A4.at hp4) (by rw [List.length_map, List.length_map]; omega) fun H5 A5 co _ => ?_
      walk_at "sp"
      refine S_app' A5 co (by rw [List.length_append, List.length_map, List.length_map]; omega) fun H6 A6 co _ => ?_
      refine ⟨_, G4, rfl, A6, co.as ?_⟩
      rw [take_snoc hl, fileB_snoc, lfB]
      simp
    · rintro σ H2 ⟨x2, G2, rfl, A2, co⟩
      rw [lx, List.take_length] at co
      walk_at "sp"
      exact q _ _ _ A2 (co.mt fo)
abbrev wrO (K : PySem.W.Frag) (dx : Addr) (s : Nat) (lv d : Addr) : HO := .ins (cA K "LeafWriter") dx (fs_LeafWriter (.int s) (.ref lv) (.ref d))
structure WR (K : PySem.W.Frag) (ls : List Lf) (G H : Hp) (o dx : Addr) (s : Nat) (lv d : Addr) : Prop where
  ob : H o = some (wrO K dx s lv d)
  go : G o = none
  dt : G d = none ∧ H d = some (.lst ((fileB ls).map V.int))
  lc : G lv = none ∧ ∃ vs, H lv = some (.lst vs) ∧ RpL G vs (ls.map LfD)
  ne : lv ≠ d
  ok : ∀ l ∈ ls, LfOk l
theorem WR.mono {ls : List Lf} {G H G' H' : Hp} {o dx : Addr} {s : Nat} {lv d : Addr} (wr : WR K ls G H o dx s lv d) {M : Addr → Prop} (A : Adv M G H G' H') (h1 : ¬ M o) (h2 : ¬ M d) (h3 : ¬ M lv) : WR K ls G' H' o dx s lv d := by
  obtain ⟨g, vs, h, r⟩ := wr.lc
  exact ⟨A.kp o _ h1 wr.ob, A.nw o wr.go (by rw [wr.ob]; exact fun z => nomatch z), ⟨A.nw d wr.dt.1 (by rw [wr.dt.2]; exact fun z => nomatch z), A.kp d _ h2 wr.dt.2⟩, ⟨A.nw lv g (by rw [h]; exact fun z => nomatch z), vs, A.kp lv _ h3 h, r.mono A.gg⟩, wr.ne, wr.ok⟩
def sp_LeafWriter_init (K : PySem.W.Frag) : Sp := fun vs H Q _ => ∃ (G : Hp) (o dx : Addr) (s : Nat), Same G H ∧ vs = [.ref o, .int s] ∧ G o = none ∧ H o = some (.ins (cA K "LeafWriter") dx []) ∧
  (∀ G' H' lv d, Adv (· = o) G H G' H' → WR K [] G' H' o dx s lv d → H lv = none → H d = none → Q .non H')
theorem sc_LeafWriter_init : FnScope n_LeafWriter_init p_LeafWriter_init (defScope s_LeafWriter_init) := ⟨rfl, rfl, rfl, by decide +kernel, rfl, by decide +kernel, by decide +kernel⟩
theorem ok_LeafWriter_init (T : Facts K mg) : FnOk P w K mg base CX0 4 (mA K "LeafWriter" "__init__") (mD K "LeafWriter" "__init__") p_LeafWriter_init (sp_LeafWriter_init K) := by
  refine T.LeafWriter_init.F.ok sc_LeafWriter_init (fun vs H Q E h => ?_) (fun cdv A outer s H vs Q E hr h => ?_)
  · obtain ⟨G, o, dx, st, _, rfl, _⟩ := h
    rfl
  · obtain ⟨G, o, dx, st, sG, rfl, go, ho, q⟩ := h
    refine ⟨_, PSs.nox (pss_cons (ps_fld (pv 0) (pv 1) rfl)
  (pss_cons (ps_fld (pv 0) (pe_lst pa_nil) rfl)
  (pss_one (ps_fld (pv 0) (pe_call (ok_write_leaves T) (hr.mono (by decide)) (by rfl) T.write_leaves.g T.write_leaves.kp T.write_leaves.b .nil pass0 (pa_cons (pe_lst pa_nil) pa_nil)) rfl)))), ?_⟩
    have A : Adv (· = o) G H G H := .refl sG
    have co : Cl (· = o) H G H o _ := ⟨.inl rfl, go, ho⟩
    walk_at "sp"
    refine S_sf A co T.cl_LeafWriter T.na_LeafWriter_stamp (Nat.le_of_ble_eq_true rfl) rfl fun H1 A1 c1 _ => ?_
    walk_at "sp"
    refine ⟨Nat.zero_le _, S_newM A1 fun lv H2 A2 cl fl mm => ?_⟩
    obtain ⟨c2, n2⟩ := mm _ _ c1
    clear mm
    walk_at "sp"
    refine S_sf A2 c2 T.cl_LeafWriter T.na_LeafWriter_leaves (Nat.le_of_ble_eq_true rfl) rfl fun H3 A3 c3 mm => ?_
    have cl3 := mm _ _ cl n2.symm
    clear mm
    walk_at "sp"
    refine ⟨Nat.zero_le _, S_newF A3 fun p4 G4 H4 A4 g4 hp4 mm => ?_⟩
    have c4 := mm _ _ c3
    have cl4 := mm _ _ cl3
    clear mm
    walk_at "sp"
    refine ⟨G4, .ref p4, [], A4.gh, rfl, .lst hp4 .nil, (fun _ z => nomatch z), Nat.zero_le _, fun d G5 H5 B5 md => ?_⟩
    have A5 := A4.call B5
    have c5 := c4.call B5
    have cl5 := cl4.call B5
    have cd5 : Cl (· = o) H G5 H5 d _ := ⟨.inr (A4.fresh md.f), md.g, md.h⟩
    have nod : d ≠ o := fun z => by
      have := c4.h
      rw [← z, md.f] at this
      cases this
    have nld : lv ≠ d := fun z => by
      have := cl4.h
      rw [z, md.f] at this
      cases this
    walk_at "sp"
    refine S_sf A5 c5 T.cl_LeafWriter T.na_LeafWriter_data (Nat.le_of_ble_eq_true rfl) rfl fun H6 A6 c6 mm => ?_
    have cl6 := mm _ _ cl5 n2.symm
    have cd6 := mm _ _ cd5 nod
    walk_at "sp"
    exact q _ _ lv d A6 ⟨c6.h, c6.g, ⟨cd6.g, cd6.h⟩, ⟨cl6.g, [], cl6.h, .nil⟩, nld, fun _ z => nomatch z⟩ fl (A4.fresh md.f)
def sp_LeafWriter_add (K : PySem.W.Frag) : Sp := fun vs H Q _ => ∃ (G : Hp) (o dx : Addr) (s : Nat) (lv d : Addr) (ls : List Lf) (l : Lf) (r : V), Same G H ∧ vs = [.ref o, .int l.kind, .int l.track, .int l.ord, .int l.time, .int l.span, .int l.key, r] ∧ Rp G r (IntsD l.body) ∧ WR K ls G H o dx s lv d ∧ ls.length ≤ 90 ∧ l.num = ls.length ∧ l.stamp = s ∧ LfOk l ∧
  (∀ G' H', Adv (fun q => q = lv ∨ q = d) G H G' H' → WR K (ls ++ [l]) G' H' o dx s lv d → Q .non H')
theorem sc_LeafWriter_add : FnScope n_LeafWriter_add p_LeafWriter_add (defScope s_LeafWriter_add) := ⟨rfl, rfl, rfl, by decide +kernel, rfl, by decide +kernel, by decide +kernel⟩
theorem ok_LeafWriter_add (T : Facts K mg) : FnOk P w K mg base CX0 4 (mA K "LeafWriter" "add") (mD K "LeafWriter" "add") p_LeafWriter_add (sp_LeafWriter_add K) := by
  refine T.LeafWriter_add.F.ok sc_LeafWriter_add (fun vs H Q E h => ?_) (fun cdv A outer s H vs Q E hr h => ?_)
  · obtain ⟨G, o, dx, st, lv, d, ls, l, r, _, rfl, _⟩ := h
    rfl
  · obtain ⟨G, o, dx, st, lv, d, ls, l, r, sG, rfl, hr0, wr, hl, hnum, hst, ok, q⟩ := h
    obtain ⟨b, rfl, hb⟩ := hr0.ints
    obtain ⟨gl, vs, hlv, rl⟩ := wr.lc
    have lvs := rl.len
    rw [List.length_map] at lvs
    have nol : o ≠ lv := fun z => by
      have := wr.ob
      rw [z, hlv] at this
      cases this
    have nod : o ≠ d := fun z => by
      have := wr.ob
      rw [z, wr.dt.2] at this
      cases this
    refine ⟨_, PSs.nox (pss_cons (ps_set (i := 8) sc_LeafWriter_add.nd rfl (.inl rfl) (pe_tup (pa_cons (pv 1) (pa_cons (pe_fld (pv 0) rfl) (pa_cons (pe_callB call_len_seq rfl T.z_len bi_len (pa_cons (pe_fld (pv 0) rfl) pa_nil)) (pa_cons (pv 2) (pa_cons (pv 3) (pa_cons (pv 4) (pa_cons (pv 5) (pa_cons (pv 6) (pa_cons (pv 7) pa_nil)))))))))))
  (pss_cons (ps_expr (pe_bm PySem.F.plainAttrs_list PySem.F.slot_list_append PySem.F.type_list_append mt_append (pe_fld (pv 0) rfl) (pa_cons (pv 8) pa_nil)))
  (pss_one (ps_expr (pe_bm PySem.F.plainAttrs_list PySem.F.slot_list_extend PySem.F.type_list_extend mt_extend (pe_fld (pv 0) rfl) (pa_cons (pe_slice sl_list (pe_call (ok_write_leaves T) (hr.mono (by decide)) (by rfl) T.write_leaves.g T.write_leaves.kp T.write_leaves.b .nil pass0 (pa_cons (pe_lst (pa_cons (pv 8) pa_nil)) pa_nil)) (po_some pe_int) po_none) pa_nil)))))), ?_⟩
    have A : Adv (fun q => q = lv ∨ q = d) G H G H := .refl sG
    have co : Cl (fun _ => True) H G H o _ := ⟨.inl trivial, wr.go, wr.ob⟩
    have cl : Cl (fun q => q = lv ∨ q = d) H G H lv (.lst vs) := ⟨.inl (.inl rfl), gl, hlv⟩
    have cd : Cl (fun q => q = lv ∨ q = d) H G H d _ := ⟨.inl (.inr rfl), wr.dt.1, wr.dt.2⟩
    have lf := fileB_len wr.ok
    have lb := lfOk_len ok
    walk_at "sp"
    refine ⟨line_le (by simp), S_newF A fun p1 G1 H1 A1 g1 hp1 mm => ?_⟩
    have co1 : Cl (fun _ => True) H G1 H1 o _ := ⟨.inl trivial, A1.nw o wr.go (by rw [wr.ob]; exact fun z => nomatch z), A1.kp o _ (fun z => z.elim nol nod) wr.ob⟩
    have cl1 := mm _ _ cl
    have cd1 := mm _ _ cd
    clear mm
    have hlf : Rp G1 (.ref p1) (LfD l) := by
      refine rp_lf (b := b) ?_ (A1.gg _ _ hb)
      rw [hp1, hst, hnum, lvs]
    walk_at "sp"
    refine S_app' A1 cl1 (by omega) fun H2 A2 cl2 mm => ?_
    have cd2 := mm _ _ cd1 wr.ne.symm
    have co2 : Cl (fun _ => True) H G1 H2 o _ := ⟨.inl trivial, co1.g, A2.kp o _ (fun z => z.elim nol nod) wr.ob⟩
    clear mm
    walk_at "sp"
    refine ⟨line_le (by simp), S_newF A2 fun p3 G3 H3 A3 g3 hp3 mm => ?_⟩
    have cd3 := mm _ _ cd2
    have cl3 := mm _ _ cl2
    clear mm
    walk_at "sp"
    refine ⟨G3, .ref p3, [l], A3.gh, rfl, .lst hp3 (.cons (hlf.mono g3) .nil), (fun x hx => by rw [List.mem_singleton.mp hx]; exact ok), by simp, fun p4 G4 H4 B4 m4 => ?_⟩
    have B4' := B4.still m4.f m4.h m4.g
    have A4 := A3.call B4'
    have cd4 := cd3.call B4'
    have cl4 := cl3.call B4'
    walk_at "sp"
    refine S_slL (ql A4.gh upd_same) (S_newF A4 fun p5 G5 H5 A5 g5 hp5 mm => ?_)
    have cd5 := mm _ _ cd4
    have cl5 := mm _ _ cl4
    clear mm
    have e5 : cutV ((fileB [l]).map V.int) (some 1) none = (lfB l).map V.int := by
      rw [show (1 : Int) = ((1 : Nat) : Int) from rfl, cut_lo (by simp [fileB])]
      simp [fileB]
    rw [e5] at hp5
    refine S_ext A5 cd5 (A5.at hp5) (by rw [List.length_map, List.length_map]; omega) fun H6 A6 cd6 mm => ?_
    have cl6 := mm _ _ cl5 wr.ne
    have g35 := (B4'.gg).trans g5
    refine q _ _ A6 ⟨A6.kp o _ (fun z => z.elim nol nod) wr.ob, A6.nw o wr.go (by rw [wr.ob]; exact fun z => nomatch z), ⟨cd6.g, ?_⟩, ⟨cl6.g, _, cl6.h, ?_⟩, wr.ne, fun x hx => ?_⟩
    · rw [cd6.h, fileB_snoc, List.map_append]
    · rw [List.map_append]
      exact (rl.mono A6.gg).snoc ((hlf.mono g3).mono g35)
    · rcases List.mem_append.mp hx with hx | hx
      · exact wr.ok x hx
      · rw [List.mem_singleton.mp hx]
        exact ok
def sp_LeafWriter_add_plain (K : PySem.W.Frag) : Sp := fun vs H Q _ => ∃ (G : Hp) (o dx : Addr) (s : Nat) (lv d : Addr) (ls : List Lf) (kind : Nat) (body : List Int) (r : V), Same G H ∧ vs = [.ref o, .int kind, r] ∧ Rp G r (IntsD body) ∧ WR K ls G H o dx s lv d ∧ ls.length ≤ 90 ∧ LfOk ⟨kind, s, ls.length, 0, 0, 0, 0, 0, body⟩ ∧
  (∀ G' H', Adv (fun q => q = lv ∨ q = d) G H G' H' → WR K (ls ++ [⟨kind, s, ls.length, 0, 0, 0, 0, 0, body⟩]) G' H' o dx s lv d → Q .non H')
theorem sc_LeafWriter_add_plain : FnScope n_LeafWriter_add_plain p_LeafWriter_add_plain (defScope s_LeafWriter_add_plain) := ⟨rfl, rfl, rfl, by decide +kernel, rfl, by decide +kernel, by decide +kernel⟩
theorem ok_LeafWriter_add_plain (T : Facts K mg) : FnOk P w K mg base CX0 5 (mA K "LeafWriter" "add_plain") (mD K "LeafWriter" "add_plain") p_LeafWriter_add_plain (sp_LeafWriter_add_plain K) := by
  refine T.LeafWriter_add_plain.F.ok sc_LeafWriter_add_plain (fun vs H Q E h => ?_) (fun cdv A outer s H vs Q E hr h => ?_)
  · obtain ⟨G, o, dx, st, lv, d, ls, kind, body, r, _, rfl, _⟩ := h
    rfl
  · obtain ⟨G, o, dx, st, lv, d, ls, kind, body, r, sG, rfl, hr0, wr, hl, ok, q⟩ := h
    refine ⟨_, PSs.nox (pss_one (ps_expr (pe_meth (pv 0) T.cl_LeafWriter T.m_LeafWriter_add (ok_LeafWriter_add T) (hr.mono (by decide)) T.LeafWriter_add.b .nil pass0 (pa_cons (pv 1) (pa_cons pe_int (pa_cons pe_int (pa_cons pe_int (pa_cons pe_int (pa_cons pe_int (pa_cons (pv 2) pa_nil)))))))))), ?_⟩
    have co : Cl (fun _ => True) H G H o _ := ⟨.inl trivial, wr.go, wr.ob⟩
    walk_at "sp"
    refine ⟨G, o, dx, st, lv, d, ls, ⟨kind, st, ls.length, 0, 0, 0, 0, 0, body⟩, r, sG, rfl, hr0, wr, hl, rfl, rfl, ok, fun G1 H1 A1 wr1 => ?_⟩
    walk_at "sp"
    exact q _ _ A1 wr1
end
/-! w30 -/
section
variable {P : Program} {w : World} {K : PySem.W.Frag} {mg : Str → Option Value} {base : Heap}
/-! ### what is shown -/
def sp_copied : Sp := fun vs H Q _ => ∃ (G : Hp) (r : V) (us : List Un), Same G H ∧ vs = [r] ∧ Rp G r (.list (us.map UnD)) ∧ us.length ≤ 1000 ∧ Post G H Q fun v G' => Rp G' v (.list (us.map UnD))
theorem sc_copied : FnScope n_copied p_copied (defScope s_copied) := ⟨rfl, rfl, rfl, by decide +kernel, rfl, by decide +kernel, by decide +kernel⟩
theorem ok_copied (T : Facts K mg) : FnOk P w K mg base CX0 1 (fA K "copied") (fD K "copied") p_copied sp_copied := by
  refine T.copied.F.ok sc_copied (fun vs H Q E h => ?_) (fun cdv A outer s H vs Q E hr h => ?_)
  · obtain ⟨G, r, us, _, rfl, _⟩ := h
    rfl
  · obtain ⟨G, r, us, sG, rfl, hr0, l1, q⟩ := h
    obtain ⟨a, xs, rfl, ha, hx⟩ := hr0.list
    refine ⟨_, PSs.nox (pss_one (ps_ret (pe_lc (own := [("time", 1), ("span", 2), ("content", 3), ("leans", 4)]) rfl sc_copied.nd (pi_list (pv 0)) (blkOk_by (own := [("time", 1), ("span", 2), ("content", 3), ("leans", 4)]) (N := n_copied) (sc := defScope s_copied) (by decide +kernel)) (fun _ _ _ _ _ => (pg_tupK (K := K) (n := 4) rfl rfl (pgs_cons (pg_name (i := 1) sc_copied.nd rfl (.inl rfl)) (pgs_cons (pg_name (i := 2) sc_copied.nd rfl (.inl rfl)) (pgs_cons (pg_name (i := 3) sc_copied.nd rfl (.inl rfl)) (pgs_cons (pg_name (i := 4) sc_copied.nd rfl (.inl rfl)) pgs_nil)))))) (fun _ _ _ _ _ => pts_nil) (fun _ _ _ _ _ => (pe_tup (pa_cons (pv 1) (pa_cons (pv 2) (pa_cons (pe_callTy (r := rListOf K) call_listN rfl T.z_list bi_list (pa_cons (pv 3) pa_nil)) (pa_cons (pv 4) pa_nil))))))))), ?_⟩
    have A : Adv0 G H G H := .refl sG
    walk_at "sp"
    refine S_lcL (ds := us.map UnD) some sG ha hx (by simp; omega) (fun i x d G1 H1 hxi hd A1 rx Qy Qn qy _ => ?_) (fun D G1 H1 acc A1 hD r => ?_)
    · obtain ⟨u, hu, rfl⟩ := get_map_inv hd
      obtain ⟨b, c, rfl, hb, hc⟩ := rx.un
      have B : Adv0 G1 H1 G1 H1 := .refl A1.gh
      refine S_gtup (qt A1.gh hb) rfl ?_
      walk_at "sp"
      refine ⟨rfl, ?_⟩
      walk_at "sp"
      refine S_listL (ql A1.gh hc) (S_newF B fun p2 G2 H2 A2 g2 hp2 _ => ?_)
      walk_at "sp"
      refine ⟨line_le (by simp), S_newF A2 fun p3 G3 H3 A3 g3 hp3 _ => ?_⟩
      exact qy _ rfl _ _ _ A3 (.tup hp3 (.cons (.int _) (.cons (.int _) (.cons (rp_ints (g3 _ _ hp2)) (.cons (.bl _) .nil)))))
    · rw [fm_map us UnD some UnD fun _ _ => rfl] at r
      exact q _ _ _ A1 (.lst hD r)
abbrev ShT := Int × Nat × List Int
abbrev ShD (s : ShT) : PyData := .tuple [.int s.1, .int s.2.1, IntsD s.2.2]
def inS (start : Int) (stop : Option Int) (u : Un) : Bool := decide (start < (u.time : Int) + u.span) && (match stop with
  | none => true
  | some s => decide ((u.time : Int) < s))
def shU (start : Int) (stop : Option Int) (us : List Un) : List ShT := (us.filter (inS start stop)).map fun u => ((u.time : Int) - start, u.span, u.content)
def shF (p : Pr) (start : Int) (stop : Option Int) : List (List ShT) := p.tracks.map fun t => shU start stop t.units
abbrev ShsD (x : List (List ShT)) : PyData := .list (x.map fun r => .list (r.map ShD))
def optI : Option Int → V
  | none => .non
  | some s => .int s
theorem shU_snoc {start : Int} {stop : Option Int} {us : List Un} {i : Nat} {u : Un} (h : us[i]? = some u) : shU start stop (us.take (i + 1)) = shU start stop (us.take i) ++ if inS start stop u = true then [((u.time : Int) - start, u.span, u.content)] else [] := by
  rw [shU, take_snoc h, List.filter_append, List.map_append]
  by_cases c : inS start stop u = true
  · rw [if_pos c]
    simp [shU, c]
  · rw [if_neg c]
    simp [shU, c]
def sp_shown : Sp := fun vs H Q _ => ∃ (G : Hp) (r : V) (p : Pr) (start : Int) (stop : Option Int), Same G H ∧ vs = [r, .int start, optI stop] ∧ Rp G r (PrD p) ∧ p.tracks.length ≤ 100 ∧ (∀ t ∈ p.tracks, t.units.length ≤ 1000) ∧ Post G H Q fun v G' => Rp G' v (ShsD (shF p start stop))
theorem sc_shown : FnScope n_shown p_shown (defScope s_shown) := ⟨rfl, rfl, rfl, by decide +kernel, rfl, by decide +kernel, by decide +kernel⟩
theorem ok_shown (T : Facts K mg) : FnOk P w K mg base CX0 1 (fA K "shown") (fD K "shown") p_shown sp_shown := by
  refine T.shown.F.ok sc_shown (fun vs H Q E h => ?_) (fun cdv A outer s H vs Q E hr h => ?_)
  · obtain ⟨G, r, p, s1, s2, _, rfl, _⟩ := h
    rfl
  · obtain ⟨G, r, p, s1, s2, sG, rfl, hr0, l1, l2, q⟩ := h
    obtain ⟨a, t, g, rfl, ha, ht, hg⟩ := hr0.pr
    obtain ⟨t, xs, rfl, ht, hx⟩ := ht.list
    have lx : xs.length = p.tracks.length := by rw [hx.len, List.length_map]
    refine ⟨_, PSs.nox (pss_cons (ps_set (i := 3) sc_shown.nd rfl (.inl rfl) (pe_lst pa_nil))
  (pss_cons (ps_for PassesOwn.never rfl (pi_list (pe_ix ix_tup (pv 0) pe_int (fun _ _ => rfl))) (pg_tup rfl (pgs_cons (pg_name (i := 4) sc_shown.nd rfl (.inl rfl)) (pgs_cons (pg_name (i := 4) sc_shown.nd rfl (.inl rfl)) (pgs_cons (pg_name (i := 5) sc_shown.nd rfl (.inl rfl)) pgs_nil))))
    (pss_cons (ps_set (i := 6) sc_shown.nd rfl (.inl rfl) (pe_lst pa_nil))
  (pss_cons (ps_for PassesOwn.never rfl (pi_list (pv 5)) (pg_tup rfl (pgs_cons (pg_name (i := 7) sc_shown.nd rfl (.inl rfl)) (pgs_cons (pg_name (i := 8) sc_shown.nd rfl (.inl rfl)) (pgs_cons (pg_name (i := 9) sc_shown.nd rfl (.inl rfl)) (pgs_cons (pg_name (i := 4) sc_shown.nd rfl (.inl rfl)) pgs_nil)))))
    (pss_one (ps_if (PW.pt (pw_and (pt_cmpR op_gt (pe_op op_add (pv 7) (pv 8)) (pv 1) (nomark _)) (pw_and1 (PW.pt (pw_or (pt_cmpR op_isN (pv 2) pe_non (nomark _)) (pw_or1 (pt_cmpR op_lt (pv 7) (pv 2) (nomark _))))))))
    (pss_one (ps_expr (pe_bm PySem.F.plainAttrs_list PySem.F.slot_list_append PySem.F.type_list_append mt_append (pv 6) (pa_cons (pe_tup (pa_cons (pe_op op_sub (pv 7) (pv 1)) (pa_cons (pv 8) (pa_cons (pe_callTy call_listN rfl T.z_list bi_list (pa_cons (pv 9) pa_nil)) pa_nil)))) pa_nil))))
    pss_nil)))
  (pss_one (ps_expr (pe_bm PySem.F.plainAttrs_list PySem.F.slot_list_append PySem.F.type_list_append mt_append (pv 3) (pa_cons (pv 6) pa_nil)))))))
  (pss_one (ps_ret (pv 3))))), ?_⟩
    have A : Adv0 G H G H := .refl sG
    walk_at "sp"
    refine ⟨Nat.zero_le _, S_newM A fun o H1 A1 co fo _ => ?_⟩
    walk_at "sp"
    refine S_forL (xs := xs) (fun i σ H2 => ∃ (x4 x5 x6 x7 x8 x9 : Option V) (G2 : Hp) (vs : List V), σ = [some (.ref a), some (.int s1), some (optI s2), some (.ref o), x4, x5, x6, x7, x8, x9] ∧ Adv0 G H G2 H2 ∧ Cl No H G2 H2 o (.lst vs) ∧ RpL G2 vs (((p.tracks.take i).map fun t => shU s1 s2 t.units).map fun r => .list (r.map ShD)))
      ⟨none, none, none, none, none, none, G, [], rfl, A1, co, .nil⟩ (fun i σ H2 _ ⟨_, _, _, _, _, _, _, _, _, A2, _⟩ => A2.l ht) ?_ ?_
    · rintro i x σ H2 hxi ⟨x4, x5, x6, x7, x8, x9, G2, vs, rfl, A2, co, rl⟩
      obtain ⟨d, hd, rx⟩ := hx.getV hxi
      obtain ⟨k, hk, rfl⟩ := get_map_inv hd
      have lus := l2 k (List.mem_of_getElem? hk)
      have hi := (List.getElem?_eq_some_iff.mp hk).1
      obtain ⟨b, u, rfl, hb, hu⟩ := rx.tk
      obtain ⟨u, ys, rfl, hu, hy⟩ := hu.list
      have ly : ys.length = k.units.length := by rw [hy.len, List.length_map]
      have lvs := rl.len
      simp only [List.length_map, List.length_take] at lvs
      walk_at "sp"
      refine ⟨Nat.zero_le _, S_newM A2 fun rw H3 A3 cr fr mm => ?_⟩
      obtain ⟨co3, nor⟩ := mm _ _ co
      clear mm
      walk_at "sp"
      refine S_forL (xs := ys) (fun j σ H4 => ∃ (x4 x7 x8 x9 : Option V) (G4 : Hp) (ws : List V), σ = [some (.ref a), some (.int s1), some (optI s2), some (.ref o), x4, some (.ref u), some (.ref rw), x7, x8, x9] ∧ Adv0 G H G4 H4 ∧ Same G2 G4 ∧ Cl No H G4 H4 o (.lst vs) ∧ Cl No H G4 H4 rw (.lst ws) ∧ RpL G4 ws ((shU s1 s2 (k.units.take j)).map ShD) ∧ ws.length ≤ j)
        ⟨_, _, _, _, G2, [], rfl, A3, .refl _, co3, cr, .nil, Nat.zero_le _⟩ (fun j σ H4 _ ⟨_, _, _, _, _, _, _, A4, _⟩ => A4.l hu) ?_ ?_
      · rintro j y σ H4 hyj ⟨x4, x7, x8, x9, G4, ws, rfl, A4, g24, co4, cr4, rw4, lws⟩
        obtain ⟨d, hd, ry⟩ := hy.getV hyj
        obtain ⟨un, hun, rfl⟩ := get_map_inv hd
        have hj := (List.getElem?_eq_some_iff.mp hun).1
        obtain ⟨e, f, rfl, he, hf⟩ := ry.un
        have hsn := shU_snoc (start := s1) (stop := s2) hun
        have fin : inS s1 s2 un = true → rListOf K [.ref f] H4 fun x H5 => AllT [.int ((un.time : Int) - s1), .int un.span, x] H5 fun x H6 => rAppend (.ref rw) [x] H6 fun _ H5 => ∃ (x4 x7 x8 x9 : Option V) (G4 : Hp) (ws : List V), [some (.ref a), some (.int s1), some (optI s2), some (.ref o), some (.bl un.leans), some (.ref u), some (.ref rw), some (.int un.time), some (.int un.span), some (.ref f)] = [some (.ref a), some (.int s1), some (optI s2), some (.ref o), x4, some (.ref u), some (.ref rw), x7, x8, x9] ∧ Adv0 G H G4 H5 ∧ Same G2 G4 ∧ Cl No H G4 H5 o (.lst vs) ∧ Cl No H G4 H5 rw (.lst ws) ∧ RpL G4 ws ((shU s1 s2 (k.units.take (j + 1))).map ShD) ∧ ws.length ≤ j + 1 := fun hin => by
          rw [if_pos hin] at hsn
          refine S_listL (A4.l hf) (S_newF A4 fun p5 G5 H5 A5 g5 hp5 mm => ?_)
          have co5 := mm _ _ co4
          have cr5 := mm _ _ cr4
          clear mm
          refine ⟨line_le (by simp), S_newF A5 fun p6 G6 H6 A6 g6 hp6 mm => ?_⟩
          have co6 := mm _ _ co5
          have cr6 := mm _ _ cr5
          clear mm
          refine S_app' A6 cr6 (by omega) fun H7 A7 cr7 mm => ?_
          have co7 := mm _ _ co6 nor
          refine ⟨_, _, _, _, G6, _, rfl, A7, g24.trans (g5.trans g6), co7, cr7, ?_, by simp; omega⟩
          rw [hsn, List.map_append]
          exact (rw4.mono (g5.trans g6)).snoc (.tup hp6 (.cons (.int _) (.cons (.int _) (.cons (rp_ints (g6 _ _ hp5)) .nil))))
        have no : inS s1 s2 un ≠ true → ∃ (x4 x7 x8 x9 : Option V) (G4 : Hp) (ws : List V), [some (.ref a), some (.int s1), some (optI s2), some (.ref o), some (.bl un.leans), some (.ref u), some (.ref rw), some (.int un.time), some (.int un.span), some (.ref f)] = [some (.ref a), some (.int s1), some (optI s2), some (.ref o), x4, some (.ref u), some (.ref rw), x7, x8, x9] ∧ Adv0 G H G4 H4 ∧ Same G2 G4 ∧ Cl No H G4 H4 o (.lst vs) ∧ Cl No H G4 H4 rw (.lst ws) ∧ RpL G4 ws ((shU s1 s2 (k.units.take (j + 1))).map ShD) ∧ ws.length ≤ j + 1 := fun hin => by
          rw [if_neg hin, List.append_nil] at hsn
          exact ⟨_, _, _, _, G4, ws, rfl, A4, g24, co4, cr4, by rw [hsn]; exact rw4, by omega⟩
        by_cases c1 : s1 < (un.time : Int) + un.span
        · cases s2 with
          | none =>
            have hin : inS s1 none un = true := by simp [inS, c1]
            rw [show optI none = V.non from rfl] at fin no ⊢
            walk_at "sp"
            exact fin hin
          | some st =>
            rw [show optI (some st) = V.int st from rfl] at fin no ⊢
            by_cases c2 : (un.time : Int) < st
            · have hin : inS s1 (some st) un = true := by simp [inS, c1, c2]
              walk_at "sp"
              refine S_df (fun z => nomatch z) ?_
              walk_at "sp"
              exact fin hin
            · have hin : inS s1 (some st) un ≠ true := by simp [inS, c2]
              walk_at "sp"
              refine S_df (fun z => nomatch z) ?_
              walk_at "sp"
              exact no hin
        · have hin : inS s1 s2 un ≠ true := by simp [inS, c1]
          walk_at "sp"
          exact no hin
      · rintro σ H4 ⟨x4, x7, x8, x9, G4, ws, rfl, A4, g24, co4, cr4, rw4, lws⟩
        rw [ly, List.take_length] at rw4
        walk_at "sp"
        have A5 := A4.still fr cr4.h cr4.g
        have co5 : Cl No H (upd G4 rw (.lst ws)) H4 o _ := ⟨co4.f, by rw [upd_ne nor]; exact co4.g, co4.h⟩
        refine S_app' A5 co5 (by omega) fun H6 A6 co6 _ => ?_
        refine ⟨_, _, _, _, _, _, _, _, rfl, A6, co6, ?_⟩
        rw [take_snoc hk, List.map_append, List.map_append]
        exact (rl.mono (g24.trans (same_new cr4.g))).snoc (.lst upd_same (rw4.mono (same_new cr4.g)))
    · rintro σ H2 ⟨x4, x5, x6, x7, x8, x9, G2, vs, rfl, A2, co, rl⟩
      rw [lx, List.take_length] at rl
      walk_at "sp"
      exact q _ _ _ (A2.still fo co.h co.g) (.lst upd_same (rl.mono (same_new co.g)))
end
/-! w31 -/
section
variable {P : Program} {w : World} {K : PySem.W.Frag} {mg : Str → Option Value} {base : Heap}
/-! ### cutting -/
def fstK (s : Int) : Nat → Nat → List Lf → Nat
  | _, cur, [] => cur
  | i, cur, l :: ls => fstK s (i + 1) (if l.key = 1 ∧ (l.time : Int) ≤ s then i else cur) ls
def takF (ls : List Lf) (s t : Int) : List Lf := (ls.drop (fstK s 0 0 ls)).filter fun l => decide ((l.time : Int) < t)
def sp_taken : Sp := fun vs H Q _ => ∃ (G : Hp) (r : V) (ls : List Lf) (s t : Int), Same G H ∧ vs = [r, .int s, .int t] ∧ Rp G r (.list (ls.map LfD)) ∧ ls.length ≤ 1000 ∧ Post G H Q fun v G' => Rp G' v (.list ((takF ls s t).map LfD))
theorem sc_taken : FnScope n_taken p_taken (defScope s_taken) := ⟨rfl, rfl, rfl, by decide +kernel, rfl, by decide +kernel, by decide +kernel⟩
theorem ok_taken (T : Facts K mg) : FnOk P w K mg base CX0 1 (fA K "taken") (fD K "taken") p_taken sp_taken := by
  refine T.taken.F.ok sc_taken (fun vs H Q E h => ?_) (fun cdv A outer s H vs Q E hr h => ?_)
  · obtain ⟨G, r, ls, s1, t1, _, rfl, _⟩ := h
    rfl
  · obtain ⟨G, r, ls, s1, t1, sG, rfl, hr0, l1, q⟩ := h
    obtain ⟨a, xs, rfl, ha, hx⟩ := hr0.list
    have lx : xs.length = ls.length := by rw [hx.len, List.length_map]
    refine ⟨_, PSs.nox (pss_cons (ps_set (i := 3) sc_taken.nd rfl (.inl rfl) pe_int)
  (pss_cons (ps_for PassesOwn.never rfl (pi_range1 rfl T.z_range (pa_cons (pe_callB call_len_seq rfl T.z_len bi_len (pa_cons (pv 0) pa_nil)) pa_nil)) (pg_name (i := 4) sc_taken.nd rfl (.inl rfl))
    (pss_one (ps_if (PW.pt (pw_and (pt_cmpR op_eq (pe_ix ix_tup (pe_ix ix_list (pv 0) (pv 4) (fun _ _ => rfl)) (pe_gi rfl T.g_KEY) (fun _ _ => rfl)) pe_int (nomark _)) (pw_and1 (pt_cmpR op_le (pe_ix ix_tup (pe_ix ix_list (pv 0) (pv 4) (fun _ _ => rfl)) (pe_gi rfl T.g_TIME) (fun _ _ => rfl)) (pv 1) (nomark _)))))
    (pss_one (ps_set (i := 3) sc_taken.nd rfl (.inl rfl) (pv 4)))
    pss_nil)))
  (pss_one (ps_ret (pe_lc (own := [("leaf", 5)]) rfl sc_taken.nd (pi_list (pe_slice sl_list (pv 0) (po_some (pv 3)) po_none)) (blkOk_by (own := [("leaf", 5)]) (N := n_taken) (sc := defScope s_taken) (by decide +kernel)) (fun _ _ _ _ _ => (pg_name (i := 5) sc_taken.nd rfl (.inl rfl))) (fun _ _ _ _ _ => (pts_one (pt_cmpR op_lt (pe_ix (r := rIxT K) ix_tup (pv 5) (pe_gi rfl T.g_TIME) (fun _ _ => rfl)) (pv 2) (nomark _)))) (fun _ _ _ _ _ => (pv 5))))))), ?_⟩
    have A : Adv0 G H G H := .refl sG
    walk_at "sp"
    refine S_rn1 (k := ls.length) (by rw [lx]) (by omega) (S_forR (fun i σ H1 => ∃ (f : Nat) (x4 x5 : Option V), σ = [some (.ref a), some (.int s1), some (.int t1), some (.int f), x4, x5] ∧ H = H1 ∧ f ≤ ls.length ∧ fstK s1 i f (ls.drop i) = fstK s1 0 0 ls) ⟨0, none, none, rfl, rfl, Nat.zero_le _, rfl⟩ ?_ ?_)
    · rintro i σ H1 hi ⟨f, x4, x5, rfl, rfl, hf, e⟩
      have hli : ls[i]? = some (ls[i]'hi) := List.getElem?_eq_getElem hi
      generalize ls[i]'hi = l at hli
      rw [drop_cons hli, fstK] at e
      obtain ⟨v, hv, rv⟩ := hx.get (get_map hli)
      obtain ⟨b, c, rfl, hb, hc⟩ := rv.lf
      walk_at "sp"
      refine S_ixL (A.l ha) (atI_n (Int.zero_add _) hv) ?_
      walk_at "sp"
      by_cases c1 : l.key = 1
      · walk_at "sp"
        refine S_ixL (A.l ha) (atI_n (Int.zero_add _) hv) ?_
        walk_at "sp"
        by_cases c2 : (l.time : Int) ≤ s1
        · rw [if_pos ⟨c1, c2⟩] at e
          walk_at "sp"
          refine ⟨i, some (.int ((i : Nat) : Int)), x5, ?_, rfl, by omega, e⟩
          rw [show (0 : Int) + (i : Nat) = (i : Nat) by omega] <;> rfl
        · rw [if_neg fun z => c2 z.2] at e
          walk_at "sp"
          exact ⟨f, _, _, rfl, rfl, hf, e⟩
      · rw [if_neg fun z => c1 z.1] at e
        walk_at "sp"
        exact ⟨f, _, _, rfl, rfl, hf, e⟩
    · rintro σ H1 ⟨f, x4, x5, rfl, rfl, hf, e⟩
      rw [List.drop_length, fstK] at e
      walk_at "sp"
      refine S_slL (A.l ha) (S_newF A fun p1 G1 H1 A1 g1 hp1 _ => ?_)
      rw [cut_lo (by omega)] at hp1
      have hx1 : RpL G1 (xs.drop f) ((ls.drop f).map LfD) := by
        rw [List.map_drop]
        exact (hx.drop f).mono g1
      walk_at "sp"
      refine S_lcL (ds := (ls.drop f).map LfD) (fun d => match d with | .tuple [_, _, _, _, _, .int t, _, _, _] => if t < t1 then some d else none | _ => none) A1.gh hp1 hx1 (by simp; omega) (fun i x d G2 H2 hxi hd A2 rx Qy Qn qy qn => ?_) (fun D G2 H2 acc A2 hD r => ?_)
      · obtain ⟨l, hl, rfl⟩ := get_map_inv hd
        obtain ⟨b, c, rfl, hb, hc⟩ := rx.lf
        walk_at "sp"
        refine ⟨rfl, ?_⟩
        by_cases c : (l.time : Int) < t1
        · walk_at "sp"
          exact qy (LfD l) (if_pos c) _ _ _ (.refl A2.gh) (rp_lf hb hc)
        · walk_at "sp"
          exact qn (if_neg c) _ _ (.refl A2.gh)
      · refine q _ _ _ (A1.call A2) (.lst hD ?_)
        have ef : ∀ us : List Lf, (us.map LfD).filterMap (fun d => match d with | .tuple [_, _, _, _, _, .int t, _, _, _] => if t < t1 then some d else none | _ => none) = (us.filter fun l => decide ((l.time : Int) < t1)).map LfD := fun us => by
          induction us with
          | nil => rfl
          | cons u us ih =>
            rw [List.map_cons, List.filterMap_cons, List.filter_cons]
            by_cases c : (u.time : Int) < t1
            · rw [if_pos (decide_eq_true c)]
              simp only [if_pos c]
              rw [ih, List.map_cons]
            · rw [if_neg (by simp [c])]
              simp only [if_neg c]
              exact ih
        rw [ef] at r
        rw [takF, ← e]
        exact r
end
/-! w32 -/
section
variable {P : Program} {w : World} {K : PySem.W.Frag} {mg : Str → Option Value} {base : Heap}
theorem S_slT {H : Hp} {Q : VK} {a : Addr} {x y z : V} (s : SqT K H a [x, y, z]) (h : NewO (.tup [x, y]) H Q) : rSlT K (.ref a) none (some 2) H Q := ⟨a, _, rfl, s, (show ¬ (HT.sIx 3 0 none = 0 ∧ HT.sIx 3 3 (some 2) = 3) by decide), h⟩
theorem line_ok {z : Str} (h : LineOk z) : PyData.strOk z = true := by
  unfold PyData.strOk
  rw [Array.all_eq_true]
  intro i hi
  have := h z.cps[i] (by simp)
  exact decide_eq_true (by omega)
def sp_check_alike : Sp := fun vs H Q _ => ∃ (G : Hp) (r1 r2 : V) (tk s1 : Nat) (rows1 rows2 : List RowT), Same G H ∧ vs = [r1, r2] ∧ Rp G r1 (HeadD tk s1 rows1) ∧ Rp G r2 (HeadD tk 0 rows2) ∧ rows1.length = rows2.length ∧ rows1.length ≤ 100 ∧
  (∀ (k : Nat) (a b : RowT), rows1[k]? = some a → rows2[k]? = some b → a.1 = b.1 ∧ a.2.1 = b.2.1 ∧ LineOk b.1 ∧ LineOk b.2.1) ∧ (∀ G' H', Adv0 G H G' H' → Q .non H')
theorem sc_check_alike : FnScope n_check_alike p_check_alike (defScope s_check_alike) := ⟨rfl, rfl, rfl, by decide +kernel, rfl, by decide +kernel, by decide +kernel⟩
theorem ok_check_alike (T : Facts K mg) : FnOk P w K mg base CX0 1 (fA K "check_alike") (fD K "check_alike") p_check_alike sp_check_alike := by
  refine T.check_alike.F.ok sc_check_alike (fun vs H Q E h => ?_) (fun cdv A outer s H vs Q E hr h => ?_)
  · obtain ⟨G, r1, r2, tk, s1, rows1, rows2, _, rfl, _⟩ := h
    rfl
  · obtain ⟨G, r1, r2, tk, s1, rows1, rows2, sG, rfl, h1, h2, hl, l1, hk, q⟩ := h
    obtain ⟨a1, b1, xs1, rfl, ha1, hb1, hx1⟩ := Rp.hd3 (F := ⟨0, tk, s1, rows1, [], [], []⟩) h1
    obtain ⟨a2, b2, xs2, rfl, ha2, hb2, hx2⟩ := Rp.hd3 (F := ⟨0, tk, 0, rows2, [], [], []⟩) h2
    simp only at ha1 ha2 hx1 hx2
    have lx1 : xs1.length = rows1.length := by rw [hx1.len, List.length_map]
    have lx2 : xs2.length = rows2.length := by rw [hx2.len, List.length_map]
    refine ⟨_, PSs.nox (pss_cons (ps_if (pt_cmpR op_ne (pe_ix ix_tup (pv 0) pe_int (fun _ _ => rfl)) (pe_ix ix_tup (pv 1) pe_int (fun _ _ => rfl)) (nomark _))
    pss_never
    pss_nil)
  (pss_cons (ps_if (pt_cmpR op_ne (pe_callB call_len_seq rfl T.z_len bi_len (pa_cons (pe_ix ix_tup (pv 0) pe_int (fun _ _ => rfl)) pa_nil)) (pe_callB call_len_seq rfl T.z_len bi_len (pa_cons (pe_ix ix_tup (pv 1) pe_int (fun _ _ => rfl)) pa_nil)) (nomark _))
    pss_never
    pss_nil)
  (pss_cons (ps_for PassesOwn.never rfl (pi_range1 rfl T.z_range (pa_cons (pe_callB call_len_seq rfl T.z_len bi_len (pa_cons (pe_ix ix_tup (pv 0) pe_int (fun _ _ => rfl)) pa_nil)) pa_nil)) (pg_name (i := 2) sc_check_alike.nd rfl (.inl rfl))
    (pss_one (ps_if (pt_cmpR (op_neD hr.units) (pe_slice sl_tup (pe_ix ix_list (pe_ix ix_tup (pv 0) pe_int (fun _ _ => rfl)) (pv 2) (fun _ _ => rfl)) po_none (po_some pe_int)) (pe_slice sl_tup (pe_ix ix_list (pe_ix ix_tup (pv 1) pe_int (fun _ _ => rfl)) (pv 2) (fun _ _ => rfl)) po_none (po_some pe_int)) (nomark _))
    pss_never
    pss_nil)))
  (pss_one (ps_if (pt_cmpR op_ne (pe_ix ix_tup (pv 1) pe_int (fun _ _ => rfl)) pe_int (nomark _))
    pss_never
    pss_nil))))), ?_⟩
    have A : Adv0 G H G H := .refl sG
    walk_at "sp"
    refine S_rn1 (k := rows1.length) (by rw [lx1]) (by omega) (S_forR (fun i σ H1 => ∃ (x2 : Option V) (G1 : Hp), σ = [some (.ref a1), some (.ref a2), x2] ∧ Adv0 G H G1 H1) ⟨none, G, rfl, A⟩ ?_ ?_)
    · rintro i σ H1 hi ⟨x2, G1, rfl, A1⟩
      have k1 : rows1[i]? = some (rows1[i]'hi) := List.getElem?_eq_getElem hi
      have k2 : rows2[i]? = some (rows2[i]'(by omega)) := List.getElem?_eq_getElem (by omega)
      generalize rows1[i]'hi = x at k1
      generalize rows2[i]'(by omega) = y at k2
      obtain ⟨e1, e2, o1, o2⟩ := hk i x y k1 k2
      obtain ⟨v1, hv1, rv1⟩ := hx1.get (get_map k1)
      obtain ⟨v2, hv2, rv2⟩ := hx2.get (get_map k2)
      obtain ⟨c1, rfl, hc1⟩ := rv1.row
      obtain ⟨c2, rfl, hc2⟩ := rv2.row
      walk_at "sp"
      refine S_ixL (A1.l hb1) (atI_n (Int.zero_add _) hv1) ?_
      walk_at "sp"
      refine S_slT (A1.t hc1) (S_newF A1 fun p2 G2 H2 A2 g2 hp2 _ => ?_)
      walk_at "sp"
      refine S_ixL (A2.l hb2) (atI_n (Int.zero_add _) hv2) ?_
      walk_at "sp"
      refine S_slT (A2.t hc2) (S_newF A2 fun p3 G3 H3 A3 g3 hp3 _ => ?_)
      have zz : Shp 1 (.tuple [.str y.1, .str y.2.1]) := .tup (shp_cons (.str _ (line_ok o1)) (shp_cons (.str _ (line_ok o2)) shp_nil))
      refine ⟨.tuple [.str y.1, .str y.2.1], .tuple [.str y.1, .str y.2.1], (Rp.tup (g3 _ _ hp2) (.cons (by rw [e1]; exact .str _) (.cons (by rw [e2]; exact .str _) .nil))).dp A3.gh, (Rp.tup hp3 (.cons (.str _) (.cons (.str _) .nil))).dp A3.gh, zz.shaped (by decide), zz.shaped (by decide), ?_⟩
      rw [zz.eqv]
      walk_at "sp"
      exact ⟨_, _, rfl, A3⟩
    · rintro σ H1 ⟨x2, G1, rfl, A1⟩
      walk_at "sp"
      exact q _ _ A1
abbrev LlD (tr : List (List Lf)) : PyData := .list (tr.map fun t => .list (t.map LfD))
def sp_check_length : Sp := fun vs H Q _ => ∃ (G : Hp) (r1 r2 : V) (tr : List (List Lf)) (us : List Lf) (e : Nat), Same G H ∧ vs = [r1, r2, .int e] ∧ Rp G r1 (LlD tr) ∧ Rp G r2 (.list (us.map LfD)) ∧ us.length ≤ 1000 ∧ (∀ t ∈ tr, t.length ≤ 100) ∧
  (∀ l ∈ us, 1 ≤ l.track ∧ l.track ≤ tr.length ∧ l.time + e < 1099511627776 ∧ l.ord ≤ 100) ∧ Q .non H
theorem sc_check_length : FnScope n_check_length p_check_length (defScope s_check_length) := ⟨rfl, rfl, rfl, by decide +kernel, rfl, by decide +kernel, by decide +kernel⟩
theorem ok_check_length (T : Facts K mg) : FnOk P w K mg base CX0 1 (fA K "check_length") (fD K "check_length") p_check_length sp_check_length := by
  refine T.check_length.F.ok sc_check_length (fun vs H Q E h => ?_) (fun cdv A outer s H vs Q E hr h => ?_)
  · obtain ⟨G, r1, r2, tr, us, e, _, rfl, _⟩ := h
    rfl
  · obtain ⟨G, r1, r2, tr, us, e, sG, rfl, h1, h2, l1, l2, hus, q⟩ := h
    obtain ⟨a, xs, rfl, ha, hx⟩ := h1.list
    obtain ⟨b, ys, rfl, hb, hy⟩ := h2.list
    have ly : ys.length = us.length := by rw [hy.len, List.length_map]
    refine ⟨_, PSs.nox (pss_one (ps_for PassesOwn.never rfl (pi_range1 rfl T.z_range (pa_cons (pe_callB call_len_seq rfl T.z_len bi_len (pa_cons (pv 1) pa_nil)) pa_nil)) (pg_name (i := 3) sc_check_length.nd rfl (.inl rfl))
    (pss_cons (ps_set (i := 4) sc_check_length.nd rfl (.inl rfl) (pe_callB call_len_seq rfl T.z_len bi_len (pa_cons (pe_ix ix_list (pv 0) (pe_op op_sub (pe_ix ix_tup (pe_ix ix_list (pv 1) (pv 3) (fun _ _ => rfl)) (pe_gi rfl T.g_TRACK) (fun _ _ => rfl)) pe_int) (fun _ _ => rfl)) pa_nil)))
  (pss_one (ps_if (PW.pt (pw_or (pt_cmpR op_ge (pe_op op_add (pe_ix ix_tup (pe_ix ix_list (pv 1) (pv 3) (fun _ _ => rfl)) (pe_gi rfl T.g_TIME) (fun _ _ => rfl)) (pv 2)) (pe_gi rfl T.g_TIME_LIMIT) (nomark _)) (pw_or1 (pt_cmpR op_ge (pe_op op_add (pv 4) (pe_ix ix_tup (pe_ix ix_list (pv 1) (pv 3) (fun _ _ => rfl)) (pe_gi rfl T.g_ORDINAL) (fun _ _ => rfl))) (pe_gi rfl T.g_MOST_UNITS_joining) (nomark _)))))
    pss_never
    pss_nil))))), ?_⟩
    have A : Adv0 G H G H := .refl sG
    walk_at "sp"
    refine S_rn1 (k := us.length) (by rw [ly]) (by omega) (S_forR (fun i σ H1 => ∃ (x3 x4 : Option V), σ = [some (.ref a), some (.ref b), some (.int e), x3, x4] ∧ H = H1) ⟨none, none, rfl, rfl⟩ ?_ ?_)
    · rintro i σ H1 hi ⟨x3, x4, rfl, rfl⟩
      have ki : us[i]? = some (us[i]'hi) := List.getElem?_eq_getElem hi
      obtain ⟨t1, t2, t3, t4⟩ := hus _ (List.getElem_mem hi)
      generalize us[i]'hi = l at ki t1 t2 t3 t4
      obtain ⟨v, hv, rv⟩ := hy.get (get_map ki)
      obtain ⟨c, d, rfl, hc, hd⟩ := rv.lf
      have kt : tr[l.track - 1]? = some (tr[l.track - 1]'(by omega)) := List.getElem?_eq_getElem (by omega)
      have lt := l2 _ (List.getElem_mem (l := tr) (n := l.track - 1) (by omega))
      generalize tr[l.track - 1]'(by omega) = t at kt lt
      obtain ⟨v2, hv2, rv2⟩ := hx.get (get_map kt)
      obtain ⟨f, zs, rfl, hf, hz⟩ := rv2.list
      have lz : zs.length = t.length := by rw [hz.len, List.length_map]
      walk_at "sp"
      refine S_ixL (A.l hb) (atI_n (Int.zero_add _) hv) ?_
      walk_at "sp"
      refine S_ixL (A.l ha) (atI_n (j := l.track - 1) (by omega) hv2) ?_
      walk_at "sp"
      refine S_ixL (A.l hb) (atI_n (Int.zero_add _) hv) ?_
      walk_at "sp"
      refine S_ixL (A.l hb) (atI_n (Int.zero_add _) hv) ?_
      walk_at "sp"
      exact ⟨_, _, rfl, rfl⟩
    · rintro σ H1 ⟨x3, x4, rfl, rfl⟩
      walk_at "sp"
      exact q
end
/-! w33 -/
section
variable {P : Program} {w : World} {K : PySem.W.Frag} {mg : Str → Option Value} {base : Heap}
/-! ### units to bodies -/
def mvOf (before : List Int) (u : Un) : Mv := ⟨u.time, u.span, if u.leans = true then 0 else 1, encB before u⟩
def encU : List Int → List Un → List Mv
  | _, [] => []
  | b, u :: us => mvOf b u :: encU u.content us
def prevC (b : List Int) (us : List Un) : Nat → List Int
  | 0 => b
  | j + 1 => match us[j]? with
    | some u => u.content
    | none => []
theorem encU_get : ∀ (us : List Un) (b : List Int) (j : Nat) (u : Un), us[j]? = some u → (encU b us)[j]? = some (mvOf (prevC b us j) u)
  | [], _, _, _, h => by simp at h
  | v :: us, b, 0, u, h => by
    cases h
    rfl
  | v :: us, b, j + 1, u, h => by
    have ih := encU_get us v.content j u h
    rw [encU, List.getElem?_cons_succ, ih]
    cases j with
    | zero => rfl
    | succ j => rfl
theorem encU_len : ∀ (us : List Un) (b : List Int), (encU b us).length = us.length
  | [], _ => rfl
  | v :: us, b => by rw [encU, List.length_cons, List.length_cons, encU_len us]
def rowsOf (p : Pr) : List RowT := p.tracks.map fun t => (t.name, t.kind, t.units.length)
abbrev MvsD (tr : List (List Mv)) : PyData := .list (tr.map fun t => .list (t.map MvD))
def mvsOf (p : Pr) : List (List Mv) := p.tracks.map fun t => encU [] t.units
theorem UOk.get : ∀ {us : List Un} {l j : Nat} {u : Un}, UOk l us → us[j]? = some u → u.content.length ≤ 200
  | [], _, _, _, _, h => by simp at h
  | v :: us, l, 0, u, h, e => by
    cases e
    exact h.2.2.2.2.1
  | v :: us, l, j + 1, u, h, e => UOk.get h.2.2.2.2.2.2 e
def sp_with_bodies : Sp := fun vs H Q _ => ∃ (G : Hp) (r : V) (p : Pr), Same G H ∧ vs = [r] ∧ Rp G r (PrD p) ∧ PrOk p ∧ Post G H Q fun v G' => Rp G' v (.tuple [HeadD p.ticks p.skip (rowsOf p), MvsD (mvsOf p)])
theorem sc_with_bodies : FnScope n_with_bodies p_with_bodies (defScope s_with_bodies) := ⟨rfl, rfl, rfl, by decide +kernel, rfl, by decide +kernel, by decide +kernel⟩
theorem ok_with_bodies (T : Facts K mg) : FnOk P w K mg base CX0 4 (fA K "with_bodies") (fD K "with_bodies") p_with_bodies sp_with_bodies := by
  refine T.with_bodies.F.ok sc_with_bodies (fun vs H Q E h => ?_) (fun cdv A outer s H vs Q E hr h => ?_)
  · obtain ⟨G, r, p, _, rfl, _⟩ := h
    rfl
  · obtain ⟨G, r, p, sG, rfl, hr0, ok, q⟩ := h
    obtain ⟨a, t, g, rfl, ha, ht, hg⟩ := hr0.pr
    obtain ⟨t, xs, rfl, ht, hx⟩ := ht.list
    have lx : xs.length = p.tracks.length := by rw [hx.len, List.length_map]
    have lt := ok.len
    refine ⟨_, PSs.nox (pss_cons (ps_asg (pv 0) (pg_tup rfl (pgs_cons (pg_name (i := 1) sc_with_bodies.nd rfl (.inl rfl)) (pgs_cons (pg_name (i := 2) sc_with_bodies.nd rfl (.inl rfl)) (pgs_cons (pg_name (i := 3) sc_with_bodies.nd rfl (.inl rfl)) (pgs_cons (pg_name (i := 4) sc_with_bodies.nd rfl (.inl rfl)) pgs_nil))))))
  (pss_cons (ps_setLc (i := 5) (own := [("name", 6), ("kind", 7), ("units", 8)]) rfl sc_with_bodies.nd rfl rfl (sw_true rfl rfl rfl (by decide +kernel)) (pi_list (pv 3)) (blkOk_by (own := [("name", 6), ("kind", 7), ("units", 8)]) (N := n_with_bodies) (sc := defScope s_with_bodies) (by decide +kernel)) (fun _ _ _ _ _ => (pg_tupK (K := K) (n := 3) rfl rfl (pgs_cons (pg_name (i := 6) sc_with_bodies.nd rfl (.inl rfl)) (pgs_cons (pg_name (i := 7) sc_with_bodies.nd rfl (.inl rfl)) (pgs_cons (pg_name (i := 8) sc_with_bodies.nd rfl (.inl rfl)) pgs_nil))))) (fun _ _ _ _ _ => pts_nil) (fun _ _ _ _ _ => (pe_tup (pa_cons (pv 6) (pa_cons (pv 7) (pa_cons (pe_callB (r := rLenQ K) call_len_seq rfl T.z_len bi_len (pa_cons (pv 8) pa_nil)) pa_nil))))))
  (pss_cons (ps_set (i := 9) sc_with_bodies.nd rfl (.inl rfl) (pe_lst pa_nil))
  (pss_cons (ps_for PassesOwn.never rfl (pi_list (pv 3)) (pg_tup rfl (pgs_cons (pg_name (i := 4) sc_with_bodies.nd rfl (.inl rfl)) (pgs_cons (pg_name (i := 4) sc_with_bodies.nd rfl (.inl rfl)) (pgs_cons (pg_name (i := 8) sc_with_bodies.nd rfl (.inl rfl)) pgs_nil))))
    (pss_cons (ps_set (i := 10) sc_with_bodies.nd rfl (.inl rfl) pe_non)
  (pss_cons (ps_set (i := 11) sc_with_bodies.nd rfl (.inl rfl) (pe_lst pa_nil))
  (pss_cons (ps_for PassesOwn.never rfl (pi_list (pv 8)) (pg_name (i := 12) sc_with_bodies.nd rfl (.inl rfl))
    (pss_cons (ps_expr (pe_bm PySem.F.plainAttrs_list PySem.F.slot_list_append PySem.F.type_list_append mt_append (pv 11) (pa_cons (pe_tup (pa_cons (pe_ix ix_tup (pv 12) pe_int (fun _ _ => rfl)) (pa_cons (pe_ix ix_tup (pv 12) pe_int (fun _ _ => rfl)) (pa_cons (pe_callTy call_int1 rfl T.z_int bi_int (pa_cons (pe_not (pe_ix ix_tup (pv 12) pe_int (fun _ _ => rfl))) pa_nil)) (pa_cons (pe_call (ok_unit_body T) (hr.mono (by decide)) (by rfl) T.unit_body.g T.unit_body.kp T.unit_body.b .nil pass0 (pa_cons (pv 12) (pa_cons (pv 10) pa_nil))) pa_nil))))) pa_nil)))
  (pss_one (ps_set (i := 10) sc_with_bodies.nd rfl (.inl rfl) (pe_ix ix_tup (pv 12) pe_int (fun _ _ => rfl))))))
  (pss_one (ps_expr (pe_bm PySem.F.plainAttrs_list PySem.F.slot_list_append PySem.F.type_list_append mt_append (pv 9) (pa_cons (pv 11) pa_nil))))))))
  (pss_one (ps_ret (pe_tup (pa_cons (pe_tup (pa_cons (pv 1) (pa_cons (pv 2) (pa_cons (pv 5) pa_nil)))) (pa_cons (pv 9) pa_nil))))))))), ?_⟩
    have A : Adv0 G H G H := .refl sG
    walk_at "sp"
    refine S_lcL (ds := p.tracks.map TkD) (fun d => match d with | .tuple [n, k, .list us] => some (.tuple [n, k, .int us.length]) | _ => none) sG ht hx (by simp; omega) (fun i x d G1 H1 hxi hd A1 rx Qy Qn qy _ => ?_) (fun D G1 H1 acc A1 hD r => ?_)
    · obtain ⟨k, hk, rfl⟩ := get_map_inv hd
      obtain ⟨b, u, rfl, hb, hu⟩ := rx.tk
      obtain ⟨u, ys, rfl, hu, hy⟩ := hu.list
      have ly : ys.length = k.units.length := by rw [hy.len, List.length_map]
      have B : Adv0 G1 H1 G1 H1 := .refl A1.gh
      refine S_gtup (qt A1.gh hb) rfl ?_
      walk_at "sp"
      refine ⟨rfl, ?_⟩
      walk_at "sp"
      refine ⟨line_le (by simp), S_newF B fun p3 G3 H3 A3 g3 hp3 _ => ?_⟩
      refine qy (.tuple [.str k.name, .str k.kind, .int (k.units.length : Nat)]) ?_ _ _ _ A3 (.tup hp3 (.cons (.str _) (.cons (.str _) (.cons ?_ .nil))))
      · show some (PyData.tuple [.str k.name, .str k.kind, .int (((k.units.map UnD).length : Nat) : Int)]) = _
        rw [List.length_map]
      · rw [ly]
        exact .int _
    · rw [fm_map p.tracks TkD _ (fun k => RowD (k.name, k.kind, k.units.length)) fun k _ => by
        show some (PyData.tuple [.str k.name, .str k.kind, .int (((k.units.map UnD).length : Nat) : Int)]) = _
        rw [List.length_map]] at r
      have hrows : Rp G1 (.ref D) (.list ((rowsOf p).map RowD)) := .lst hD (by rw [rowsOf, List.map_map]; exact r)
      walk_at "sp"
      refine ⟨Nat.zero_le _, S_newM (M := No) (G0 := G) (H0 := H) A1 fun o H2 A2 co fo _ => ?_⟩
      walk_at "sp"
      refine S_forL (xs := xs) (fun i σ H2 => ∃ (x4 x6 x7 x8 x10 x11 x12 : Option V) (G2 : Hp) (vs : List V), σ = [some (.ref a), some (.int p.ticks), some (.int p.skip), some (.ref t), x4, some (.ref D), x6, x7, x8, some (.ref o), x10, x11, x12] ∧ Adv0 G H G2 H2 ∧ Same G1 G2 ∧ Cl No H G2 H2 o (.lst vs) ∧ RpL G2 vs (((p.tracks.take i).map fun t => encU [] t.units).map fun t => .list (t.map MvD)))
        ⟨_, none, none, none, none, none, none, G1, [], rfl, A2, .refl _, co, .nil⟩ (fun i σ H2 _ ⟨_, _, _, _, _, _, _, _, _, _, A2, _⟩ => A2.l ht) ?_ ?_
      · rintro i x σ H2 hxi ⟨x4, x6, x7, x8, x10, x11, x12, G2, vs, rfl, A2, g12, co, rl⟩
        obtain ⟨d, hd, rx⟩ := hx.getV hxi
        obtain ⟨k, hk, rfl⟩ := get_map_inv hd
        have okk := ok.tracks k (List.mem_of_getElem? hk)
        have hi := (List.getElem?_eq_some_iff.mp hk).1
        obtain ⟨b, u, rfl, hb, hu⟩ := rx.tk
        obtain ⟨u, ys, rfl, hu, hy⟩ := hu.list
        have ly : ys.length = k.units.length := by rw [hy.len, List.length_map]
        have lu := okk.len
        have lvs := rl.len
        simp only [List.length_map, List.length_take] at lvs
        walk_at "sp"
        refine ⟨Nat.zero_le _, S_newM A2 fun bo H3 A3 cb fb mm => ?_⟩
        obtain ⟨co3, nob⟩ := mm _ _ co
        clear mm
        walk_at "sp"
        refine S_forL (xs := ys) (fun j σ H4 => ∃ (x4 x12 : Option V) (bv : V) (G4 : Hp) (ws : List V), σ = [some (.ref a), some (.int p.ticks), some (.int p.skip), some (.ref t), x4, some (.ref D), x6, x7, some (.ref u), some (.ref o), some bv, some (.ref bo), x12] ∧ Adv0 G H G4 H4 ∧ Same G2 G4 ∧ Cl No H G4 H4 o (.lst vs) ∧ Cl No H G4 H4 bo (.lst ws) ∧ RpL G4 ws (((encU [] k.units).take j).map MvD) ∧ (j ≠ 0 → Rp G4 bv (IntsD (prevC [] k.units j))) ∧ (prevC [] k.units j).length ≤ 200)
          ⟨_, _, .non, G2, [], rfl, A3, .refl _, co3, cb, .nil, fun z => absurd rfl z, by simp [prevC]⟩ (fun j σ H4 _ ⟨_, _, _, _, _, _, A4, _⟩ => A4.l hu) ?_ ?_
        · rintro j y σ H4 hyj ⟨x4, x12, bv, G4, ws, rfl, A4, g24, co4, cb4, rw4, hbv, hpl⟩
          obtain ⟨d, hd, ry⟩ := hy.getV hyj
          obtain ⟨un, hun, rfl⟩ := get_map_inv hd
          have hj := (List.getElem?_eq_some_iff.mp hun).1
          have hul := UOk.get okk.units hun
          have lws := rw4.len
          simp only [List.length_map, List.length_take, encU_len] at lws
          have hg := encU_get k.units [] j un hun
          have hlean : un.leans = true → j ≠ 0 := fun h z => by
            subst z
            rw [okk.head un hun] at h
            cases h
          have ry4 := ry.mono A4.gg
          obtain ⟨e, f, rfl, he, hf⟩ := ry4.un
          walk_at "sp"
          have fin : ∀ (kk : Nat) (R : Hp → Prop), kk = (if un.leans = true then 0 else 1) → (∀ G6 H7 ws, Adv0 G H G6 H7 → Same G4 G6 → Cl No H G6 H7 o (.lst vs) → Cl No H G6 H7 bo (.lst ws) → RpL G6 ws (((encU [] k.units).take (j + 1)).map MvD) → (j + 1 ≠ 0 → Rp G6 (.ref f) (IntsD (prevC [] k.units (j + 1)))) → (prevC [] k.units (j + 1)).length ≤ 200 → R H7) →
              sp_unit_body [.ref e, bv] H4 (fun x H5 => AllT [.int un.time, .int un.span, .int kk, x] H5 fun x H6 => rAppend (.ref bo) [x] H6 fun _ H7 => R H7) E0 := fun kk R hkk hR => by
            refine ⟨G4, .ref e, bv, un, prevC [] k.units j, A4.gh, rfl, ry4, fun h => hbv (hlean h), by omega, by omega, S_postI A4 fun p5 G5 H5 A5 B5 hp5 => ?_⟩
            have co5 := co4.call B5
            have cb5 := cb4.call B5
            refine ⟨line_le (by simp), S_newF A5 fun p6 G6 H6 A6 g6 hp6 mm => ?_⟩
            have co6 := mm _ _ co5
            have cb6 := mm _ _ cb5
            clear mm
            refine S_app' A6 cb6 (by omega) fun H7 A7 cb7 mm => ?_
            have co7 := mm _ _ co6 nob
            have hpc : prevC [] k.units (j + 1) = un.content := by rw [prevC, hun]
            refine hR G6 H7 _ A7 (B5.gg.trans g6) co7 cb7 ?_ (fun _ => ?_) (by rw [hpc]; exact hul)
            · rw [take_snoc hg, List.map_append]
              refine (rw4.mono (B5.gg.trans g6)).snoc (.tup hp6 (.cons (.int _) (.cons (.int _) (.cons ?_ (.cons (rp_ints (g6 _ _ hp5)) .nil)))))
              rw [hkk]
              exact .int _
            · rw [hpc]
              exact rp_ints (g6 _ _ (B5.gg _ _ hf))
          cases hl : un.leans with
          | true =>
            rw [hl] at fin
            walk_at "sp"
            refine fin 0 _ rfl fun G6 H7 ws2 A7 g46 co7 cb7 rw7 hb7 hp7 => ?_
            walk_at "sp"
            refine S_ixT (qt A7.gh (g46 _ _ he)) rfl ?_
            walk_at "sp"
            exact ⟨_, _, _, G6, ws2, rfl, A7, g24.trans g46, co7, cb7, rw7, hb7, hp7⟩
          | false =>
            rw [hl] at fin
            walk_at "sp"
            refine fin 1 _ rfl fun G6 H7 ws2 A7 g46 co7 cb7 rw7 hb7 hp7 => ?_
            walk_at "sp"
            refine S_ixT (qt A7.gh (g46 _ _ he)) rfl ?_
            walk_at "sp"
            exact ⟨_, _, _, G6, ws2, rfl, A7, g24.trans g46, co7, cb7, rw7, hb7, hp7⟩
        · rintro σ H4 ⟨x4, x12, bv, G4, ws, rfl, A4, g24, co4, cb4, rw4, _, _⟩
          rw [ly, List.take_of_length_le (by rw [encU_len]; exact Nat.le_refl _)] at rw4
          walk_at "sp"
          have A5 := A4.still fb cb4.h cb4.g
          have co5 : Cl No H (upd G4 bo (.lst ws)) H4 o _ := ⟨co4.f, by rw [upd_ne nob]; exact co4.g, co4.h⟩
          refine S_app' A5 co5 (by omega) fun H6 A6 co6 _ => ?_
          refine ⟨_, _, _, _, _, _, _, _, _, rfl, A6, g12.trans (g24.trans (same_new cb4.g)), co6, ?_⟩
          rw [take_snoc hk, List.map_append, List.map_append]
          exact (rl.mono (g24.trans (same_new cb4.g))).snoc (.lst upd_same (rw4.mono (same_new cb4.g)))
      · rintro σ H2 ⟨x4, x6, x7, x8, x10, x11, x12, G2, vs, rfl, A2, g12, co, rl⟩
        rw [lx, List.take_length] at rl
        walk_at "sp"
        refine ⟨line_le (by simp), ?_⟩
        have A3 := A2.still fo co.h co.g
        refine S_newF A3 fun p4 G4 H4 A4 g4 hp4 _ => ?_
        walk_at "sp"
        refine ⟨line_le (by simp), S_newF A4 fun p5 G5 H5 A5 g5 hp5 _ => ?_⟩
        have g35 := (same_new (u := HO.lst vs) co.g).trans (g4.trans g5)
        exact q _ _ _ A5 (.tup hp5 (.cons (.tup (g5 _ _ hp4) (.cons (.int _) (.cons (.int _) (.cons (hrows.mono (g12.trans g35)) .nil)))) (.cons (.lst (g5 _ _ (g4 _ _ upd_same)) (rl.mono g35)) .nil)))
end
/-! w34 -/
section
variable {P : Program} {w : World} {K : PySem.W.Frag} {mg : Str → Option Value} {base : Heap}
def sp_whole_show : Sp := fun vs H Q _ => ∃ (G : Hp) (r : V) (p : Pr), Same G H ∧ vs = [r] ∧ Rp G r (PrD p) ∧ p.tracks.length ≤ 100 ∧ (∀ t ∈ p.tracks, t.units.length ≤ 1000) ∧ Post G H Q fun v G' => Rp G' v (ShsD (shF p p.skip none))
theorem sc_whole_show : FnScope n_whole_show p_whole_show (defScope s_whole_show) := ⟨rfl, rfl, rfl, by decide +kernel, rfl, by decide +kernel, by decide +kernel⟩
theorem ok_whole_show (T : Facts K mg) : FnOk P w K mg base CX0 2 (fA K "whole_show") (fD K "whole_show") p_whole_show sp_whole_show := by
  obtain ⟨ds, hdv, hdb⟩ := T.shown_b1
  refine T.whole_show.F.ok sc_whole_show (fun vs H Q E h => ?_) (fun cdv A outer s H vs Q E hr h => ?_)
  · obtain ⟨G, r, p, _, rfl, _⟩ := h
    rfl
  · obtain ⟨G, r, p, sG, rfl, hr0, l1, l2, q⟩ := h
    obtain ⟨a, t, g, rfl, ha, ht, hg⟩ := hr0.pr
    refine ⟨_, PSs.nox (pss_one (ps_ret (pe_call (ok_shown T) (hr.mono (by decide)) (by rfl) T.shown.g T.shown.kp hdb hdv pass0 (pa_cons (pv 0) (pa_cons (pe_ix ix_tup (pv 0) pe_int (fun _ _ => rfl)) pa_nil))))), ?_⟩
    have A : Adv0 G H G H := .refl sG
    walk_at "sp"
    exact ⟨G, .ref a, p, p.skip, none, sG, rfl, hr0, l1, l2, q⟩
end
/-! w35 -/
section
variable {P : Program} {w : World} {K : PySem.W.Frag} {mg : Str → Option Value} {base : Heap}
abbrev rdO (K : PySem.W.Frag) (dx o du : Addr) (g : Int) (b : Int) : HO := .ins (cA K "Reader") dx (fs_Reader (.ref o) (.ref du) (.int g) (.int b))
def sp_Reader_init (K : PySem.W.Frag) : Sp := fun vs H Q _ => ∃ (G : Hp) (r dx : Addr), Same G H ∧ vs = [.ref r] ∧ G r = none ∧ H r = some (.ins (cA K "Reader") dx []) ∧
  (∀ G' H' o odx d p du hv tv ev uv, Adv (· = r) G H G' H' → H' r = some (rdO K dx o du 0 (-1)) → Cl (· = r) H G' H' o (lrO K odx d 1 1 0 0 (-1) hv tv ev uv p) → H o = none → Rp G' tv (.list []) → Rp G' ev (.list []) → Cl (· = r) H G' H' d (.lst []) → H d = none → Cl (· = r) H G' H' p (.dK []) → H p = none → Cl (· = r) H G' H' du (.dK []) → H du = none → p ≠ du → Q .non H')
theorem sc_Reader_init : FnScope n_Reader_init p_Reader_init (defScope s_Reader_init) := ⟨rfl, rfl, rfl, by decide +kernel, rfl, by decide +kernel, by decide +kernel⟩
theorem ok_Reader_init (T : Facts K mg) : FnOk P w K mg base CX0 3 (mA K "Reader" "__init__") (mD K "Reader" "__init__") p_Reader_init (sp_Reader_init K) := by
  refine T.Reader_init.F.ok sc_Reader_init (fun vs H Q E h => ?_) (fun cdv A outer s H vs Q E hr h => ?_)
  · obtain ⟨G, r, dx, _, rfl, _⟩ := h
    rfl
  · obtain ⟨G, r, dx, sG, rfl, gr, hr0, q⟩ := h
    refine ⟨_, PSs.nox (pss_cons (ps_fld (pv 0) (pe_make0 T.mk_LeafReader (ok_LeafReader_init T) (hr.mono (by decide)) (by rfl) T.g_LeafReader T.LeafReader_init.b .nil pass0) rfl)
  (pss_cons (ps_fld (pv 0) pe_dnewK rfl)
  (pss_cons (ps_fld (pv 0) pe_int rfl)
  (pss_one (ps_fld (pv 0) (pe_un un_neg pe_int) rfl))))), ?_⟩
    have A : Adv (· = r) G H G H := .refl sG
    have c0 : Cl (· = r) H G H r _ := ⟨.inl rfl, gr, hr0⟩
    walk_at "sp"
    refine S_mk A fun o odx H1 A1 co fo mm => ?_
    obtain ⟨c1, n1⟩ := mm _ _ c0
    clear mm
    refine ⟨G, o, odx, A1.gh, rfl, co.g, co.h, fun G2 H2 d p hv tv ev uv B2 h2 rt re cd fd cp fp => ⟨rfl, ?_⟩⟩
    have A2 := co.trans A1 B2
    have co2 := co.meth B2 h2
    have c2 := c1.callM B2 n1
    have cd2 : Cl (· = r) H G2 H2 d _ := ⟨.inr (A1.fresh fd), cd.g, cd.h⟩
    have cp2 : Cl (· = r) H G2 H2 p _ := ⟨.inr (A1.fresh fp), cp.g, cp.h⟩
    have ndr : d ≠ r := cd2.ne c2 fun z => nomatch z
    have npr : p ≠ r := cp2.ne c2 fun z => nomatch z
    walk_at "sp"
    refine S_sf A2 c2 T.cl_Reader T.na_Reader_leaves (Nat.le_of_ble_eq_true rfl) rfl fun H3 A3 c3 mm => ?_
    have co3 := mm _ _ co2 n1.symm
    have cd3 := mm _ _ cd2 ndr
    have cp3 := mm _ _ cp2 npr
    clear mm
    walk_at "sp"
    refine S_newM A3 fun du H4 A4 cu fu mm => ?_
    obtain ⟨c4, n4⟩ := mm _ _ c3
    obtain ⟨co4, _⟩ := mm _ _ co3
    obtain ⟨cd4, _⟩ := mm _ _ cd3
    obtain ⟨cp4, npu⟩ := mm _ _ cp3
    clear mm
    walk_at "sp"
    refine S_sf A4 c4 T.cl_Reader T.na_Reader_units (Nat.le_of_ble_eq_true rfl) rfl fun H5 A5 c5 mm => ?_
    have co5 := mm _ _ co4 n1.symm
    have cd5 := mm _ _ cd4 ndr
    have cp5 := mm _ _ cp4 npr
    have cu5 := mm _ _ cu n4.symm
    clear mm
    walk_at "sp"
    refine S_sf A5 c5 T.cl_Reader T.na_Reader_given (Nat.le_of_ble_eq_true rfl) rfl fun H6 A6 c6 mm => ?_
    have co6 := mm _ _ co5 n1.symm
    have cd6 := mm _ _ cd5 ndr
    have cp6 := mm _ _ cp5 npr
    have cu6 := mm _ _ cu5 n4.symm
    clear mm
    walk_at "sp"
    refine S_sf A6 c6 T.cl_Reader T.na_Reader_bad (Nat.le_of_ble_eq_true rfl) rfl fun H7 A7 c7 mm => ?_
    have co7 := mm _ _ co6 n1.symm
    have cd7 := mm _ _ cd6 ndr
    have cp7 := mm _ _ cp6 npr
    have cu7 := mm _ _ cu6 n4.symm
    clear mm
    walk_at "sp"
    exact q _ _ o odx d p du hv tv ev uv A7 c7.h co7 fo rt re cd7 (A1.fresh fd) cp7 (A1.fresh fp) cu7 fu npu
end
/-! w36 -/
section
variable {P : Program} {w : World} {K : PySem.W.Frag} {mg : Str → Option Value} {base : Heap}
/-! ### the law's own defs: what is drawn may be any number below the bound -/
abbrev AnyN (n : Nat) (H : Hp) (Q : VK) : Prop := ∀ v : Nat, v < n → Q (.int v) H
theorem any_mod {n : Nat} {H : Hp} {Q : VK} (h : AnyN n H Q) (hn : 0 < n) (i : Int) : Q (.int (i % (n : Nat))) H := by
  have h1 := Int.emod_nonneg i (b := (n : Int)) (by omega)
  have h2 := Int.emod_lt_of_pos i (b := (n : Int)) (by omega)
  have := h (i % (n : Int)).toNat (by omega)
  rw [Int.toNat_of_nonneg h1] at this
  exact this
def sp_lw_at : Sp := fun vs H Q _ => ∃ (G : Hp) (r : V) (ds : List Int) (k n : Nat), Same G H ∧ vs = [r, .int k, .int n] ∧ Rp G r (IntsD ds) ∧ 0 < n ∧ AnyN n H Q
theorem sc_lw_at : FnScope n_lw_at p_lw_at (defScope s_lw_at) := ⟨rfl, rfl, rfl, by decide +kernel, rfl, by decide +kernel, by decide +kernel⟩
theorem ok_lw_at (T : Facts K mg) : FnOk P w K mg base CX0 1 (fA K "_law_at") (fD K "_law_at") p_lw_at sp_lw_at := by
  refine T.lw_at.F.ok sc_lw_at (fun vs H Q E h => ?_) (fun cdv A outer s H vs Q E hr h => ?_)
  · obtain ⟨G, r, ds, k, n, _, rfl, _⟩ := h
    rfl
  · obtain ⟨G, r, ds, k, n, sG, rfl, hr0, hn, q⟩ := h
    obtain ⟨a, rfl, ha⟩ := hr0.ints
    refine ⟨_, PSs.nox (pss_cons (ps_if (pt_cmpR op_lt (pv 1) (pe_callB call_len_seq rfl T.z_len bi_len (pa_cons (pv 0) pa_nil)) (nomark _))
    (pss_one (ps_ret (pe_op op_mod (pe_callTy call_int1 rfl T.z_int bi_int (pa_cons (pe_ix ix_list (pv 0) (pv 1) (fun _ _ => rfl)) pa_nil)) (pv 2))))
    pss_nil)
  (pss_one (ps_ret pe_int))), ?_⟩
    walk_at "sp"
    by_cases c : k < ds.length
    · have hk : ds[k]? = some (ds[k]'c) := List.getElem?_eq_getElem c
      generalize ds[k]'c = x at hk
      walk_at "sp"
      refine S_ri (by omega) ?_
      exact any_mod q hn _
    · walk_at "sp"
      exact q 0 hn
def mixI (ds : List Int) (k : Nat) : Int :=
  let x := if 0 < ds.length then (ds[k % ds.length]?).getD 0 else 0
  if k < ds.length then x else (x * 7919 + k * 104729) / 3
def mixF (ds : List Int) (k n : Nat) : Nat := (mixI ds k % (n : Int)).toNat
theorem mixF_lt (ds : List Int) (k : Nat) {n : Nat} (h : 0 < n) : mixF ds k n < n := by
  have h1 := Int.emod_nonneg (mixI ds k) (b := (n : Int)) (by omega)
  have h2 := Int.emod_lt_of_pos (mixI ds k) (b := (n : Int)) (by omega)
  unfold mixF
  omega
theorem mixF_of {ds : List Int} {k n : Nat} {i : Int} {H : Hp} {Q : VK} (hn : 0 < n) (e : mixI ds k = i) (q : Q (.int (mixF ds k n)) H) : Q (.int (i % (n : Nat))) H := by
  have h1 := Int.emod_nonneg i (b := (n : Int)) (by omega)
  unfold mixF at q
  rw [e, Int.toNat_of_nonneg h1] at q
  exact q
def sp_lw_mixD : Sp := fun vs H Q _ => ∃ (G : Hp) (r : V) (ds : List Int) (k n : Nat), Same G H ∧ vs = [r, .int k, .int n] ∧ Rp G r (IntsD ds) ∧ 0 < n ∧ ds.length ≤ 1000000 ∧ k ≤ 1000000 ∧ Q (.int (mixF ds k n)) H
def sp_lw_mix : Sp := fun vs H Q _ => ∃ (G : Hp) (r : V) (ds : List Int) (k n : Nat), Same G H ∧ vs = [r, .int k, .int n] ∧ Rp G r (IntsD ds) ∧ 0 < n ∧ ds.length ≤ 1000000 ∧ k ≤ 1000000 ∧ AnyN n H Q
theorem sc_lw_mix : FnScope n_lw_mix p_lw_mix (defScope s_lw_mix) := ⟨rfl, rfl, rfl, by decide +kernel, rfl, by decide +kernel, by decide +kernel⟩
theorem ok_lw_mixD (T : Facts K mg) : FnOk P w K mg base CX0 1 (fA K "_law_mix") (fD K "_law_mix") p_lw_mix sp_lw_mixD := by
  refine T.lw_mix.F.ok sc_lw_mix (fun vs H Q E h => ?_) (fun cdv A outer s H vs Q E hr h => ?_)
  · obtain ⟨G, r, ds, k, n, _, rfl, _⟩ := h
    rfl
  · obtain ⟨G, r, ds, k, n, sG, rfl, hr0, hn, hd, hkk, q⟩ := h
    obtain ⟨a, rfl, ha⟩ := hr0.ints
    refine ⟨_, PSs.nox (pss_cons (ps_set (i := 3) sc_lw_mix.nd rfl (.inl rfl) pe_int)
  (pss_cons (ps_if (pt_cmpR op_gt (pe_callB call_len_seq rfl T.z_len bi_len (pa_cons (pv 0) pa_nil)) pe_int (nomark _))
    (pss_one (ps_set (i := 3) sc_lw_mix.nd rfl (.inl rfl) (pe_ix ix_list (pv 0) (pe_op op_mod (pe_callTy call_int1 rfl T.z_int bi_int (pa_cons (pv 1) pa_nil)) (pe_callB call_len_seq rfl T.z_len bi_len (pa_cons (pv 0) pa_nil))) (fun _ _ => rfl))))
    pss_nil)
  (pss_cons (ps_if (pt_cmpR op_lt (pv 1) (pe_callB call_len_seq rfl T.z_len bi_len (pa_cons (pv 0) pa_nil)) (nomark _))
    (pss_one (ps_ret (pe_op op_mod (pe_callTy call_int1 rfl T.z_int bi_int (pa_cons (pv 3) pa_nil)) (pv 2))))
    pss_nil)
  (pss_one (ps_ret (pe_op op_mod (pe_callTy call_int1 rfl T.z_int bi_int (pa_cons (pe_op op_fdiv (pe_callTy call_int1 rfl T.z_int bi_int (pa_cons (pe_op op_add (pe_op op_mul (pv 3) pe_int) (pe_op op_mul (pv 1) pe_int)) pa_nil)) pe_int) pa_nil)) (pv 2))))))), ?_⟩
    walk_at "sp"
    by_cases c0 : 0 < ds.length
    · walk_at "sp"
      refine S_ri (by walk_at "sp om") ?_
      have hm : k % ds.length < ds.length := Nat.mod_lt _ c0
      have hk : ds[k % ds.length]? = some (ds[k % ds.length]'hm) := List.getElem?_eq_getElem hm
      generalize ds[k % ds.length]'hm = x at hk
      refine S_ixL (ql sG ha) (atI_n (j := k % ds.length) (by rw [List.length_map]; exact (Int.natCast_emod k ds.length).symm) (get_map hk)) ?_
      walk_at "sp"
      by_cases c : k < ds.length
      · walk_at "sp"
        refine S_ri (by omega) ?_
        exact mixF_of hn (by rw [mixI, if_pos c0, if_pos c, hk]; rfl) q
      · walk_at "sp"
        refine S_ri (.inr ⟨by decide, by decide⟩) ?_
        walk_at "sp"
        refine S_ri (.inr ⟨by decide, by decide⟩) ?_
        walk_at "sp"
        refine S_ri ⟨by decide, by decide⟩ ?_
        walk_at "sp"
        refine S_ri (by omega) ?_
        exact mixF_of hn (by rw [mixI, if_pos c0, if_neg c, hk]; rfl) q
    · walk_at "sp"
      refine S_ri (.inr ⟨by decide, by decide⟩) ?_
      walk_at "sp"
      refine S_ri (.inr ⟨by decide, by decide⟩) ?_
      walk_at "sp"
      refine S_ri ⟨by decide, by decide⟩ ?_
      walk_at "sp"
      refine S_ri (by omega) ?_
      exact mixF_of hn (by rw [mixI, if_neg c0, if_neg (by omega)]) q
theorem ok_lw_mix (T : Facts K mg) : FnOk P w K mg base CX0 1 (fA K "_law_mix") (fD K "_law_mix") p_lw_mix sp_lw_mix := (ok_lw_mixD T).imp fun _ _ _ _ ⟨G, r, ds, k, n, h1, h2, h3, h4, h5, h6, q⟩ => ⟨G, r, ds, k, n, h1, h2, h3, h4, h5, h6, q _ (mixF_lt ds k h4)⟩
end
/-! w37 -/
section
variable {P : Program} {w : World} {K : PySem.W.Frag} {mg : Str → Option Value} {base : Heap}
theorem sql_up {G H G' H' : Hp} {a : Addr} {xs : List V} (h : SqL K H a xs) (A : Adv0 G H G' H') : SqL K H' a xs := h.elim (fun h => .inl (h.elim (fun h => .inl (A.kp _ _ (fun z => z) h)) fun ⟨o, h⟩ => .inr ⟨o, A.kp _ _ (fun z => z) h⟩)) fun h => .inr h
def sp_lw_draws (K : PySem.W.Frag) : Sp := fun vs H Q _ => ∃ (G : Hp) (a : Addr) (ns : List Int), Same G H ∧ vs = [.ref a] ∧ SqL K H a (ns.map V.int) ∧ Post G H Q fun v G' => ∃ ds : List Int, Rp G' v (IntsD ds) ∧ ds.length ≤ 4000
theorem sc_lw_draws : FnScope n_lw_draws p_lw_draws (defScope s_lw_draws) := ⟨rfl, rfl, rfl, by decide +kernel, rfl, by decide +kernel, by decide +kernel⟩
theorem ok_lw_draws (T : Facts K mg) : FnOk P w K mg base CX0 1 (fA K "_law_draws") (fD K "_law_draws") p_lw_draws (sp_lw_draws K) := by
  refine T.lw_draws.F.ok sc_lw_draws (fun vs H Q E h => ?_) (fun cdv A outer s H vs Q E hr h => ?_)
  · obtain ⟨G, a, ns, _, rfl, _⟩ := h
    rfl
  · obtain ⟨G, a, ns, sG, rfl, hS, q⟩ := h
    refine ⟨_, PSs.nox (pss_cons (ps_set (i := 1) sc_lw_draws.nd rfl (.inl rfl) (pe_lst pa_nil))
  (pss_cons (ps_for PassesOwn.never rfl (pi_range1 rfl T.z_range (pa_cons (pe_callB (call_min2 rfl) rfl T.z_min bi_min (pa_cons pe_int (pa_cons (pe_callB call_len_seq rfl T.z_len bi_len (pa_cons (pv 0) pa_nil)) pa_nil))) pa_nil)) (pg_name (i := 2) sc_lw_draws.nd rfl (.inl rfl))
    (pss_cons (ps_set (i := 3) sc_lw_draws.nd rfl (.inl rfl) (pe_callB call_abs rfl T.z_abs bi_abs (pa_cons (pe_ix ix_list (pv 0) (pv 2) (fun _ _ => rfl)) pa_nil)))
  (pss_one (ps_if (pt_cmpR op_ge (pv 3) (pe_op op_pow pe_int pe_int) (nomark _))
    (pss_one (ps_for PassesOwn.never rfl (pi_range1 rfl T.z_range (pa_cons pe_int pa_nil)) (pg_name (i := 4) sc_lw_draws.nd rfl (.inl rfl))
    (pss_one (ps_if (pt_cmpR op_gt (pv 3) pe_int (nomark _))
    (pss_cons (ps_expr (pe_bm PySem.F.plainAttrs_list PySem.F.slot_list_append PySem.F.type_list_append mt_append (pv 1) (pa_cons (pe_op op_mod (pe_callTy call_int1 rfl T.z_int bi_int (pa_cons (pv 3) pa_nil)) pe_int) pa_nil)))
  (pss_one (ps_set (i := 3) sc_lw_draws.nd rfl (.inl rfl) (pe_op op_fdiv (pv 3) pe_int))))
    pss_nil))))
    (pss_cons (ps_set (i := 5) sc_lw_draws.nd rfl (.inl rfl) (pe_op op_mod (pe_callTy call_int1 rfl T.z_int bi_int (pa_cons (pe_op op_add (pe_op op_mul (pv 3) pe_int) (pe_op op_mul (pe_op op_add (pv 2) pe_int) pe_int)) pa_nil)) pe_int))
  (pss_cons (ps_set (i := 5) sc_lw_draws.nd rfl (.inl rfl) (pe_op op_mod (pe_callTy call_int1 rfl T.z_int bi_int (pa_cons (pe_op op_add (pe_op op_add (pe_op op_mul (pv 5) pe_int) (pe_op op_mul pe_int (pv 2))) pe_int) pa_nil)) pe_int))
  (pss_cons (ps_expr (pe_bm PySem.F.plainAttrs_list PySem.F.slot_list_append PySem.F.type_list_append mt_append (pv 1) (pa_cons (pe_op op_mod (pe_callTy call_int1 rfl T.z_int bi_int (pa_cons (pv 5) pa_nil)) pe_int) pa_nil)))
  (pss_one (ps_expr (pe_bm PySem.F.plainAttrs_list PySem.F.slot_list_append PySem.F.type_list_append mt_append (pv 1) (pa_cons (pe_op op_mod (pe_callTy call_int1 rfl T.z_int bi_int (pa_cons (pe_op op_fdiv (pv 5) pe_int) pa_nil)) pe_int) pa_nil)))))))))))
  (pss_one (ps_ret (pv 1))))), ?_⟩
    have A : Adv0 G H G H := .refl sG
    walk_at "sp"
    refine ⟨Nat.zero_le _, S_newM A fun o H1 A1 co fo _ => ?_⟩
    walk_at "sp"
    refine S_lenL (sql_up hS A1) ?_
    walk_at "sp"
    refine ⟨_, _, rfl, ?_⟩
    rw [List.length_map, show (if ((ns.length : Nat) : Int) < 63 then ((ns.length : Nat) : Int) else 63) = ((min 63 ns.length : Nat) : Int) by split <;> omega]
    walk_at "sp"
    refine S_rn1 (k := min 63 ns.length) rfl (by omega) (S_forR (fun i σ H2 => ∃ (x2 x3 x4 x5 : Option V) (acc : List Int), σ = [some (.ref a), some (.ref o), x2, x3, x4, x5] ∧ Adv0 G H G H2 ∧ Cl No H G H2 o (.lst (acc.map V.int)) ∧ acc.length ≤ 60 * i) ⟨none, none, none, none, [], rfl, A1, co, by simp⟩ ?_ ?_)
    · rintro i σ H2 hi ⟨x2, x3, x4, x5, acc, rfl, A2, co, la⟩
      have hk : ns[i]? = some (ns[i]'(by omega)) := List.getElem?_eq_getElem (by omega)
      generalize ns[i]'(by omega) = x at hk
      walk_at "sp"
      refine S_ixL (sql_up hS A2) (atI_n (Int.zero_add _) (get_map hk)) ?_
      walk_at "sp"
      refine ⟨_, rfl, ?_⟩
      generalize (if x < 0 then -x else x) = y
      walk_at "sp"
      refine S_ri ⟨by decide, by decide, by decide⟩ ?_
      walk_at "sp"
      by_cases c : (10 : Int) ^ (18 : Int).toNat ≤ y
      · refine S_dt c ?_
        walk_at "sp"
        refine S_rn1 (k := 60) rfl (by decide) (S_forR (fun j σ H3 => ∃ (x4 x5 : Option V) (y : Int) (acc : List Int), σ = [some (.ref a), some (.ref o), some (.int (0 + (i : Nat))), some (.int y), x4, x5] ∧ Adv0 G H G H3 ∧ Cl No H G H3 o (.lst (acc.map V.int)) ∧ acc.length ≤ 60 * i + j) ⟨_, _, y, acc, rfl, A2, co, la⟩ ?_ ?_)
        · rintro j σ H3 hj ⟨x4, x5, y, acc, rfl, A3, co, la⟩
          by_cases c2 : 0 < y
          · walk_at "sp"
            refine S_ri (by decide) ?_
            walk_at "sp"
            refine S_app' A3 co (by rw [List.length_map]; omega) fun H4 A4 co _ => ?_
            walk_at "sp"
            refine S_ri ⟨by decide, by decide⟩ ?_
            walk_at "sp"
            exact ⟨_, _, _, acc ++ [y % 65536], rfl, A4, co.as (by simp), by simp; omega⟩
          · walk_at "sp"
            exact ⟨_, _, _, acc, rfl, A3, co, by omega⟩
        · rintro σ H3 ⟨x4, x5, y, acc, rfl, A3, co, la⟩
          walk_at "sp"
          exact ⟨_, _, _, _, acc, rfl, A3, co, by omega⟩
      · refine S_df c ?_
        walk_at "sp"
        refine S_ri (.inr ⟨by decide, by decide⟩) ?_
        walk_at "sp"
        refine S_ri (.inr ⟨by decide, by decide⟩) ?_
        walk_at "sp"
        refine S_ri (by decide) ?_
        walk_at "sp"
        refine S_ri (.inr ⟨by decide, by decide⟩) ?_
        walk_at "sp"
        refine S_ri (.inl ⟨by decide, by decide⟩) ?_
        walk_at "sp"
        refine S_ri (by decide) ?_
        walk_at "sp"
        refine S_ri (by decide) ?_
        walk_at "sp"
        refine S_app' A2 co (by rw [List.length_map]; omega) fun H4 A4 co _ => ?_
        walk_at "sp"
        refine S_ri ⟨by decide, by decide⟩ ?_
        walk_at "sp"
        refine S_ri (by decide) ?_
        walk_at "sp"
        refine S_app' A4 co (by simp; omega) fun H5 A5 co _ => ?_
        exact ⟨_, _, _, _, acc ++ [_, _], rfl, A5, co.as (by simp; exact ⟨rfl, rfl⟩), by simp; omega⟩
    · rintro σ H2 ⟨x2, x3, x4, x5, acc, rfl, A2, co, la⟩
      walk_at "sp"
      exact q _ _ _ (A2.still fo co.h co.g) ⟨acc, rp_ints upd_same, by omega⟩
end
/-! w38 -/
section
variable {G H : Hp} {σ : L2.St} {g : TG} {te : TE} {vs : List Nat} {Q : VK}
/-- a comprehension over a range, of ints of which only a bound is known -/
theorem S_lcB {n : Nat} {B : Int → Prop} (sG : Same G H) (hn : n ≤ 100000)
    (hs : ∀ (i : Nat) (G1 H1 : Hp), i < n → Adv0 G H G1 H1 → ∀ (Qy : VK), (∀ (x : Int) (G2 H2 : Hp), Adv0 G1 H1 G2 H2 → B x → Qy (.int x) H2) →
      g (.int (0 + (i : Nat))) (wipe σ vs) H1 fun σ2 H2 => wipe σ2 vs = wipe σ vs ∧ te σ2 H2 Qy)
    (q : ∀ D G' H' (ns : List Int), Adv0 G H G' H' → G' D = some (.lst (ns.map V.int)) → ns.length = n → (∀ x ∈ ns, B x) → Q (.ref D) H') : LcR g tYes te vs σ (Itr 0 n) H Q := fun D hD => by
  have a0 : Adv0 G H G H := .refl sG
  refine lc_range (lo := 0) (n := n) (Qd := Q (.ref D)) (fun i H1 => ∃ G1 ns, Adv0 G H G1 H1 ∧ Mt H G1 H1 D (.lst (ns.map V.int)) ∧ ns.length = i ∧ ∀ x ∈ ns, B x)
    ⟨G, [], a0.new hD, .mk_new a0 hD, rfl, fun _ z => nomatch z⟩ (fun i H1 hi ⟨G1, ns, A, m, l, b⟩ => ?_) (fun H1 ⟨G1, ns, A, m, l, b⟩ => ?_)
  · refine hs i G1 H1 hi A _ fun x G2 H2 A2 bx => ?_
    have m2 := m.call A2
    refine ⟨ns.map V.int, m2.h, line_lt (by rw [List.length_map]; omega), G2, ns ++ [x], m2.wrA (A.call A2), ?_, by simp [l], fun y hy => ?_⟩
    · rw [List.map_append]
      exact m2.wr
    · rcases List.mem_append.mp hy with hy | hy
      · exact b y hy
      · rw [List.mem_singleton.mp hy]
        exact bx
  · exact q D _ H1 ns (A.still m.f m.h m.g) upd_same l b
end
section
variable {P : Program} {w : World} {K : PySem.W.Frag} {mg : Str → Option Value} {base : Heap}
theorem cut_hiA {xs : List V} (j : Nat) : cutV xs none (some (j : Int)) = xs.take j := by
  by_cases h : j ≤ xs.length
  · exact cut_hi h
  · unfold cutV
    rw [HT.sIx_nat, HT.sIx_none, Nat.min_eq_right (by omega), List.take_of_length_le (l := xs) (i := j) (by omega)]
    exact List.take_of_length_le (by simp)
theorem cut_loA {xs : List V} (j : Nat) : cutV xs (some (j : Int)) none = xs.drop j := by
  by_cases h : j ≤ xs.length
  · exact cut_lo h
  · unfold cutV
    rw [HT.sIx_nat, HT.sIx_none, Nat.min_eq_right (by omega), List.drop_length, List.drop_of_length_le (l := xs) (i := j) (by omega)]
    exact List.take_nil
def ByI (x : Int) : Prop := 0 ≤ x ∧ x < 256
def sp_lw_content : Sp := fun vs H Q _ => ∃ (G : Hp) (r1 r2 : V) (ds bs : List Int) (k : Nat), Same G H ∧ vs = [r1, .int k, r2] ∧ Rp G r1 (IntsD ds) ∧ Rp G r2 (IntsD bs) ∧ ds.length ≤ 4000 ∧ k ≤ 100000 ∧ bs.length ≤ 200 ∧ Bys bs ∧ Post G H Q fun v G' => ∃ out : List Int, Rp G' v (IntsD out) ∧ out.length ≤ 200 ∧ Bys out
theorem sc_lw_content : FnScope n_lw_content p_lw_content (defScope s_lw_content) := ⟨rfl, rfl, rfl, by decide +kernel, rfl, by decide +kernel, by decide +kernel⟩
theorem ok_lw_content (T : Facts K mg) : FnOk P w K mg base CX0 2 (fA K "_law_content") (fD K "_law_content") p_lw_content sp_lw_content := by
  refine T.lw_content.F.ok sc_lw_content (fun vs H Q E h => ?_) (fun cdv A outer s H vs Q E hr h => ?_)
  · obtain ⟨G, r1, r2, ds, bs, k, _, rfl, _⟩ := h
    rfl
  · obtain ⟨G, r1, r2, ds, bs, k, sG, rfl, hr1, hr2, l1, l2, l3, hby, q⟩ := h
    obtain ⟨a, rfl, ha⟩ := hr1.ints
    obtain ⟨b, rfl, hb⟩ := hr2.ints
    refine ⟨_, PSs.nox (pss_cons (ps_if (PW.pt (pw_and (pt_cmpR op_gt (pe_callB call_len_seq rfl T.z_len bi_len (pa_cons (pv 2) pa_nil)) pe_int (nomark _)) (pw_and1 (pt_cmpR op_gt (pe_call (ok_lw_mix T) (hr.mono (by decide)) (by rfl) T.lw_mix.g T.lw_mix.kp T.lw_mix.b .nil pass0 (pa_cons (pv 0) (pa_cons (pv 1) (pa_cons pe_int pa_nil)))) pe_int (nomark _)))))
    (pss_cons (ps_set (i := 3) sc_lw_content.nd rfl (.inl rfl) (pe_call (ok_lw_mix T) (hr.mono (by decide)) (by rfl) T.lw_mix.g T.lw_mix.kp T.lw_mix.b .nil pass0 (pa_cons (pv 0) (pa_cons (pe_op op_add (pv 1) pe_int) (pa_cons (pe_op op_add (pe_callB call_len_seq rfl T.z_len bi_len (pa_cons (pv 2) pa_nil)) pe_int) pa_nil)))))
  (pss_cons (ps_set (i := 4) sc_lw_content.nd rfl (.inl rfl) (pe_op op_add (pv 3) (pe_call (ok_lw_mix T) (hr.mono (by decide)) (by rfl) T.lw_mix.g T.lw_mix.kp T.lw_mix.b .nil pass0 (pa_cons (pv 0) (pa_cons (pe_op op_add (pv 1) pe_int) (pa_cons pe_int pa_nil))))))
  (pss_cons (ps_setLc (i := 5) (own := [("_law_j", 6)]) rfl sc_lw_content.nd rfl rfl (sw_true rfl rfl rfl (by decide +kernel)) (pi_range1 rfl T.z_range (pa_cons (pe_call (ok_lw_mix T) (hr.mono (by decide)) (by rfl) T.lw_mix.g T.lw_mix.kp T.lw_mix.b .nil pass0 (pa_cons (pv 0) (pa_cons (pe_op op_add (pv 1) pe_int) (pa_cons pe_int pa_nil)))) pa_nil)) (blkOk_by (own := [("_law_j", 6)]) (N := n_lw_content) (sc := defScope s_lw_content) (by decide +kernel)) (fun _ _ _ _ _ => (pg_name (i := 6) sc_lw_content.nd rfl (.inl rfl))) (fun _ _ _ _ _ => pts_nil) (fun _ _ _ _ _ => (pe_call (ok_lw_mix T) (hr.mono (by decide)) (by rfl) T.lw_mix.g T.lw_mix.kp T.lw_mix.b .nil pass0 (pa_cons (pv 0) (pa_cons (pe_op op_add (pe_op op_add (pv 1) pe_int) (pv 6)) (pa_cons pe_int pa_nil))))))
  (pss_one (ps_ret (pe_slice sl_list (pe_op op_cat (pe_op op_cat (pe_slice sl_list (pv 2) po_none (po_some (pv 3))) (pv 5)) (pe_slice sl_list (pv 2) (po_some (pv 4)) po_none)) po_none (po_some pe_int)))))))
    pss_nil)
  (pss_cons (ps_set (i := 7) sc_lw_content.nd rfl (.inl rfl) (pe_call (ok_lw_mix T) (hr.mono (by decide)) (by rfl) T.lw_mix.g T.lw_mix.kp T.lw_mix.b .nil pass0 (pa_cons (pv 0) (pa_cons (pe_op op_add (pv 1) pe_int) (pa_cons (pe_ix ix_list (pe_lst (pa_cons pe_int (pa_cons pe_int pa_nil))) (pe_call (ok_lw_mix T) (hr.mono (by decide)) (by rfl) T.lw_mix.g T.lw_mix.kp T.lw_mix.b .nil pass0 (pa_cons (pv 0) (pa_cons (pe_op op_add (pv 1) pe_int) (pa_cons pe_int pa_nil)))) (fun _ _ => rfl)) pa_nil)))))
  (pss_one (ps_ret (pe_lc (own := [("_law_j", 6)]) rfl sc_lw_content.nd (pi_range1 rfl T.z_range (pa_cons (pv 7) pa_nil)) (blkOk_by (own := [("_law_j", 6)]) (N := n_lw_content) (sc := defScope s_lw_content) (by decide +kernel)) (fun _ _ _ _ _ => (pg_name (i := 6) sc_lw_content.nd rfl (.inl rfl))) (fun _ _ _ _ _ => pts_nil) (fun _ _ _ _ _ => (pe_op op_mod (pe_callTy call_int1 rfl T.z_int bi_int (pa_cons (pe_op op_fdiv (pe_call (ok_lw_mix T) (hr.mono (by decide)) (by rfl) T.lw_mix.g T.lw_mix.kp T.lw_mix.b .nil pass0 (pa_cons (pv 0) (pa_cons (pe_op op_add (pe_op op_add (pv 1) pe_int) (pv 6)) (pa_cons pe_int pa_nil)))) (pe_ix (r := rIxL K) ix_list (pe_lst (pa_cons pe_int (pa_cons pe_int pa_nil))) (pe_call (ok_lw_mix T) (hr.mono (by decide)) (by rfl) T.lw_mix.g T.lw_mix.kp T.lw_mix.b .nil pass0 (pa_cons (pv 0) (pa_cons (pv 1) (pa_cons pe_int pa_nil)))) (fun _ _ => rfl))) pa_nil)) pe_int))))))), ?_⟩
    have A : Adv0 G H G H := .refl sG
    -- the second way: a new content
    have new : ∀ (s1 s2 : Nat), True := fun _ _ => trivial
    walk_at "sp"
    have fin : ∀ (H2 : Hp), H2 = H → True := fun _ _ => trivial
    by_cases c : 0 < bs.length
    · walk_at "sp"
      refine ⟨G, .ref a, ds, k, 3, sG, rfl, hr1, by decide, by omega, by omega, fun v hv => ?_⟩
      by_cases c2 : 0 < v
      · walk_at "sp"
        refine ⟨G, .ref a, ds, k + 1, bs.length + 1, sG, by rw [List.length_map]; rfl, hr1, by omega, by omega, by omega, fun pl hpl => ?_⟩
        walk_at "sp"
        refine ⟨G, .ref a, ds, k + 2, 4, sG, rfl, hr1, by omega, by omega, by omega, fun p2 hp2 => ?_⟩
        walk_at "sp"
        refine ⟨G, .ref a, ds, k + 2, 3, sG, rfl, hr1, by omega, by omega, by omega, fun m hm => ?_⟩
        walk_at "sp"
        refine S_rn1 (k := m) rfl (by omega) (S_lcB (B := ByI) sG (by omega) (fun i G1 H1 hi A1 Qy qy => ?_) (fun D G1 H1 ns A1 hD hl hB => ?_))
        · walk_at "sp"
          refine ⟨rfl, ?_⟩
          walk_at "sp"
          refine ⟨G1, .ref a, ds, k + 3 + i, 256, A1.gh, ?_, hr1.mono A1.gg, by omega, by omega, by omega, fun x hx => qy _ _ _ (.refl A1.gh) ⟨by omega, by omega⟩⟩
          rw [show ((k + 3 + i : Nat) : Int) = (k : Nat) + 3 + (0 + (i : Nat)) by omega]
          rfl
        · walk_at "sp"
          refine S_slL (A1.l hb) (S_newF A1 fun p4 G4 H4 A4 g4 hp4 _ => ?_)
          rw [cut_hiA, ← List.map_take] at hp4
          walk_at "sp"
          refine S_catF A4 hp4 (g4 _ _ hD) (by simp; omega) fun p5 G5 H5 A5 g5 hp5 _ => ?_
          walk_at "sp"
          rw [show ((pl : Int) + (p2 : Nat)) = ((pl + p2 : Nat) : Int) by omega]
          refine S_slL (A5.l hb) (S_newF A5 fun p6 G6 H6 A6 g6 hp6 _ => ?_)
          rw [cut_loA, ← List.map_drop] at hp6
          refine S_catF A6 (g6 _ _ hp5) hp6 (by simp; omega) fun p7 G7 H7 A7 g7 hp7 _ => ?_
          walk_at "sp"
          refine S_slL (ql A7.gh hp7) (S_newF A7 fun p8 G8 H8 A8 g8 hp8 _ => ?_)
          rw [show (200 : Int) = ((200 : Nat) : Int) from rfl, cut_hiA, ← List.map_take] at hp8
          refine q _ _ _ A8 ⟨_, rp_ints hp8, by rw [List.length_take]; omega, fun x hx => ?_⟩
          rcases List.mem_append.mp (List.mem_of_mem_take hx) with h | h
          · rcases List.mem_append.mp h with h | h
            · exact hby x (List.mem_of_mem_take h)
            · exact hB x h
          · exact hby x (List.mem_of_mem_drop h)
      · walk_at "sp"
        refine ⟨line_le (by simp), S_newF A fun p1 G1 H1 A1 g1 hp1 _ => ?_⟩
        walk_at "sp"
        refine ⟨G1, .ref a, ds, k + 1, 2, A1.gh, rfl, hr1.mono A1.gg, by omega, by omega, by omega, fun x hx => ?_⟩
        refine (?_ : rIxL _ _ _ _ _)
        have hx2 : ∃ bd : Nat, ([V.int 6, .int 40] : List V)[x]? = some (.int bd) ∧ 0 < bd ∧ bd ≤ 40 := by
          match x, hx with
          | 0, _ => exact ⟨6, rfl, by decide, by decide⟩
          | 1, _ => exact ⟨40, rfl, by decide, by decide⟩
        obtain ⟨bd, hbd, b1, b2⟩ := hx2
        refine S_ixL (ql A1.gh hp1) (atI_nat hbd) ?_
        walk_at "sp"
        refine ⟨G1, .ref a, ds, k + 2, bd, A1.gh, rfl, hr1.mono A1.gg, by omega, by omega, by omega, fun n hn => ?_⟩
        walk_at "sp"
        refine S_rn1 (k := n) rfl (by omega) (S_lcB (B := ByI) A1.gh (by omega) (fun i G2 H2 hi A2 Qy qy => ?_) (fun D G2 H2 ns A2 hD hl hB => ?_))
        · walk_at "sp"
          refine ⟨rfl, ?_⟩
          walk_at "sp"
          refine ⟨G2, .ref a, ds, k + 3 + i, 65536, A2.gh, ?_, (hr1.mono A1.gg).mono A2.gg, by omega, by omega, by omega, fun y hy => ?_⟩
          · rw [show ((k + 3 + i : Nat) : Int) = (k : Nat) + 3 + (0 + (i : Nat)) by omega]
            rfl
          walk_at "sp"
          refine ⟨line_le (by simp), S_newF (M := No) (G0 := G2) (H0 := H2) (.refl A2.gh) fun p3 G3 H3 A3 g3 hp3 _ => ?_⟩
          walk_at "sp"
          refine ⟨G3, .ref a, ds, k, 2, A3.gh, rfl, ((hr1.mono A1.gg).mono A2.gg).mono A3.gg, by omega, by omega, by omega, fun z hz => ?_⟩
          refine (?_ : rIxL _ _ _ _ _)
          have hz2 : ∃ dv : Nat, ([V.int 1, .int 200] : List V)[z]? = some (.int dv) ∧ 0 < dv ∧ dv ≤ 200 := by
            match z, hz with
            | 0, _ => exact ⟨1, rfl, by decide, by decide⟩
            | 1, _ => exact ⟨200, rfl, by decide, by decide⟩
          obtain ⟨dv, hdv, d1, d2⟩ := hz2
          refine S_ixL (ql A3.gh hp3) (atI_nat hdv) ?_
          walk_at "sp"
          refine S_ri ⟨by omega, by omega⟩ ?_
          walk_at "sp"
          refine S_ri (by decide) ?_
          exact qy _ _ _ A3 ⟨Int.emod_nonneg _ (by decide), Int.emod_lt_of_pos _ (by decide)⟩
        · exact q _ _ _ (A1.call A2) ⟨ns, rp_ints hD, by omega, hB⟩
    · walk_at "sp"
      refine ⟨line_le (by simp), S_newF A fun p1 G1 H1 A1 g1 hp1 _ => ?_⟩
      walk_at "sp"
      refine ⟨G1, .ref a, ds, k + 1, 2, A1.gh, rfl, hr1.mono A1.gg, by omega, by omega, by omega, fun x hx => ?_⟩
      refine (?_ : rIxL _ _ _ _ _)
      have hx2 : ∃ bd : Nat, ([V.int 6, .int 40] : List V)[x]? = some (.int bd) ∧ 0 < bd ∧ bd ≤ 40 := by
        match x, hx with
        | 0, _ => exact ⟨6, rfl, by decide, by decide⟩
        | 1, _ => exact ⟨40, rfl, by decide, by decide⟩
      obtain ⟨bd, hbd, b1, b2⟩ := hx2
      refine S_ixL (ql A1.gh hp1) (atI_nat hbd) ?_
      walk_at "sp"
      refine ⟨G1, .ref a, ds, k + 2, bd, A1.gh, rfl, hr1.mono A1.gg, by omega, by omega, by omega, fun n hn => ?_⟩
      walk_at "sp"
      refine S_rn1 (k := n) rfl (by omega) (S_lcB (B := ByI) A1.gh (by omega) (fun i G2 H2 hi A2 Qy qy => ?_) (fun D G2 H2 ns A2 hD hl hB => ?_))
      · walk_at "sp"
        refine ⟨rfl, ?_⟩
        walk_at "sp"
        refine ⟨G2, .ref a, ds, k + 3 + i, 65536, A2.gh, ?_, (hr1.mono A1.gg).mono A2.gg, by omega, by omega, by omega, fun y hy => ?_⟩
        · rw [show ((k + 3 + i : Nat) : Int) = (k : Nat) + 3 + (0 + (i : Nat)) by omega]
          rfl
        walk_at "sp"
        refine ⟨line_le (by simp), S_newF (M := No) (G0 := G2) (H0 := H2) (.refl A2.gh) fun p3 G3 H3 A3 g3 hp3 _ => ?_⟩
        walk_at "sp"
        refine ⟨G3, .ref a, ds, k, 2, A3.gh, rfl, ((hr1.mono A1.gg).mono A2.gg).mono A3.gg, by omega, by omega, by omega, fun z hz => ?_⟩
        refine (?_ : rIxL _ _ _ _ _)
        have hz2 : ∃ dv : Nat, ([V.int 1, .int 200] : List V)[z]? = some (.int dv) ∧ 0 < dv ∧ dv ≤ 200 := by
          match z, hz with
          | 0, _ => exact ⟨1, rfl, by decide, by decide⟩
          | 1, _ => exact ⟨200, rfl, by decide, by decide⟩
        obtain ⟨dv, hdv, d1, d2⟩ := hz2
        refine S_ixL (ql A3.gh hp3) (atI_nat hdv) ?_
        walk_at "sp"
        refine S_ri ⟨by omega, by omega⟩ ?_
        walk_at "sp"
        refine S_ri (by decide) ?_
        exact qy _ _ _ A3 ⟨Int.emod_nonneg _ (by decide), Int.emod_lt_of_pos _ (by decide)⟩
      · exact q _ _ _ (A1.call A2) ⟨ns, rp_ints hD, by omega, hB⟩
end
/-! w39 -/
/-! ### sorted, of tuples that read as data -/
section
open PySem.W
variable {β : Type}
theorem rp_keep {X : Cx} {pins : List (Addr × Obj)} {σ : L2.St} {G H : Hp} {s : Shared} (I : Inv X pins σ H s) (e : Same G H) (d : PyData) (v : V) (u : Value) (h : Rp G v d) (r : RelV v u) : ∃ as, Reads s.heap u d as := Dp.reads I d v u (h.dp e) r
theorem each_in {G : Hp} {enc : β → PyData} : ∀ {xs : List V} {us : List Value} {bs : List β}, Vals xs us → RpL G xs (bs.map enc) → (∀ b, ∃ x r, enc b = .tuple (x :: r)) → EachIs (fun v b => ∃ t, v = Value.ref t ∧ Rp G (.ref t) (enc b)) us bs
  | _, _, [], .nil, _, _ => .nil
  | _, _, [], .cons _ _, h, _ => nomatch h
  | _, _, b :: bs, .nil, h, _ => nomatch h
  | x :: xs, u :: us, b :: bs, .cons r t, h, e => by
    cases h with
    | cons hx ht =>
      obtain ⟨y, ys, eb⟩ := e b
      have hx' := hx
      rw [eb] at hx'
      obtain ⟨a, vs, rfl, _⟩ := hx'.tuple
      cases r
      exact .cons ⟨a, rfl, hx⟩ (each_in t ht e)
theorem each_out {G : Hp} {enc : β → PyData} : ∀ {us : List Value} {bs : List β}, EachIs (fun v b => ∃ t, v = Value.ref t ∧ Rp G (.ref t) (enc b)) us bs → RpL G (us.map bkV) (bs.map enc) ∧ ∀ u ∈ us, ∃ a, u = Value.ref a
  | _, _, .nil => ⟨.nil, fun _ z => nomatch z⟩
  | u :: us, b :: bs, .cons ⟨t, e, h⟩ r => by
    obtain ⟨h1, h2⟩ := each_out r
    subst e
    refine ⟨.cons h h1, fun u hu => ?_⟩
    rcases List.mem_cons.mp hu with rfl | hu
    · exact ⟨_, rfl⟩
    · exact h2 u hu
def rSortedD (K : PySem.W.Frag) : List V → Hp → VK → Prop := fun vs H Q => ∃ (β : Type) (enc : β → PyData) (G : Hp) (a : Addr) (xs : List V) (bs : List β), vs = [.ref a] ∧ SqL K H a xs ∧ Same G H ∧ RpL G xs (bs.map enc) ∧ (∀ b, ∃ x r, enc b = .tuple (x :: r)) ∧ (∀ b b', alike (enc b) (enc b') = true) ∧ (∀ b, (enc b).depth ≤ 20) ∧
  ∀ ys, RpL G ys ((bs.mergeSort (dataLe false enc)).map enc) → NewO (.lst ys) H Q
theorem cr_sortedD {X : Cx} (hu : X.A.units + 64 < cLine) : CallR X (.builtin "sorted") (rSortedD X.K) := by
  intro pins s σ H vs us Q I r h
  obtain ⟨β, enc, G, a, xs, bs, rfl, hs, sG, hr, ht, hal, hd, q⟩ := h
  obtain ⟨its, rv, hl, hz⟩ := I.list hs
  rw [Vals.ref1 r]
  have e1 := each_in rv hr ht
  have lx : xs.length = bs.length := by rw [hr.len, List.length_map]
  refine sorted_data (enc := enc) (R := fun v b => ∃ t, v = Value.ref t ∧ Rp G (.ref t) (enc b)) hl.isList e1 (e1.mono fun v b ⟨t, e, h⟩ => by subst e; exact rp_keep I sG _ _ _ h rfl) (AllAlike.of hal) (Sortable.tuples ht) (by rw [← lx]; exact hz) (fun b _ => by have := hd b; omega) fun out hlo ho => ?_
  obtain ⟨h1, h2⟩ := each_out ho
  obtain ⟨ep, he'⟩ := PyProof.Rows.sortedAll_at s.heap its out.toArray
  have hlen : (out.map bkV).length ≤ sizeLine := by
    rw [List.length_map, hlo, ← lx]
    exact hz
  refine ⟨.ref _, upd H (s.heap.objs.size + 1) (.lst (out.map bkV)), I.laid (t' := s.toks) (fun _ _ => PyProof.Rows.sortedAll_old) (Nat.le_succ _) ⟨hlen, out, ep, bkV_vals h2, he'⟩, rfl, q _ h1 _ (I.hok.fresh (Nat.le_succ _))⟩
end
/-! ### the rows of in_times -/
section
open PySem.W
variable {P : Program} {w : World} {K : PySem.W.Frag} {mg : Str → Option Value} {base : Heap}
def MOk : Nat → List Mv → Prop
  | _, [] => True
  | l, m :: ms => l ≤ m.time ∧ m.time < 1099511627776 ∧ 1 ≤ m.span ∧ m.span < 16777216 ∧ m.key ≤ 1 ∧ m.body.length ≤ 1024 ∧ Bys m.body ∧ MOk (m.time + m.span) ms
def rwk (k : Nat) : Nat → List Mv → List EntT
  | _, [] => []
  | j, m :: ms => (m.time, k + 1, j) :: rwk k (j + 1) ms
def rws : Nat → List (List Mv) → List EntT
  | _, [] => []
  | k, ms :: tr => rwk k 0 ms ++ rws (k + 1) tr
theorem rwk_snoc {k : Nat} {m : Mv} : ∀ {ms : List Mv} {j : Nat}, rwk k j (ms ++ [m]) = rwk k j ms ++ [(m.time, k + 1, j + ms.length)]
  | [], j => rfl
  | n :: ms, j => by
    rw [List.cons_append, rwk, rwk, rwk_snoc, List.cons_append, List.length_cons, show j + 1 + ms.length = j + (ms.length + 1) by omega]
theorem rws_snoc {ms : List Mv} : ∀ {tr : List (List Mv)} {k : Nat}, rws k (tr ++ [ms]) = rws k tr ++ rwk (k + tr.length) 0 ms
  | [], k => by simp [rws]
  | n :: tr, k => by
    rw [List.cons_append, rws, rws, rws_snoc, List.append_assoc, List.length_cons, show k + 1 + tr.length = k + (tr.length + 1) by omega]
theorem rwk_len {k : Nat} : ∀ {ms : List Mv} {j : Nat}, (rwk k j ms).length = ms.length
  | [], _ => rfl
  | _ :: ms, j => by rw [rwk, List.length_cons, List.length_cons, rwk_len]
theorem rwk_trk {k : Nat} : ∀ {ms : List Mv} {j : Nat}, ∀ e ∈ rwk k j ms, e.2.1 = k + 1
  | [], _, _, h => nomatch h
  | m :: ms, j, e, h => by
    rw [rwk] at h
    rcases List.mem_cons.mp h with rfl | h
    · rfl
    · exact rwk_trk e h
theorem rwk_map {k : Nat} : ∀ {ms : List Mv} {j : Nat}, (rwk k j ms).map (·.2) = (List.range' j ms.length).map fun j => (k + 1, j)
  | [], _ => rfl
  | m :: ms, j => by
    rw [rwk, List.map_cons, rwk_map, List.length_cons, List.range'_succ, List.map_cons]
theorem rwk_time {k : Nat} : ∀ {ms : List Mv} {l j : Nat}, MOk l ms → ∀ e ∈ rwk k j ms, l ≤ e.1
  | [], _, _, _, _, h => nomatch h
  | m :: ms, l, j, o, e, h => by
    obtain ⟨o1, _, _, _, _, _, _, o8⟩ := o
    rw [rwk] at h
    rcases List.mem_cons.mp h with rfl | h
    · exact o1
    · have := rwk_time o8 e h
      omega
theorem ent_le {a b : EntT} (h : a.1 < b.1) : dataLe false EntD a b = true := by
  show (!dataLt (EntD b) (EntD a)) = true
  rw [dataLt_tuple, dataLt_cons (by simp [alike]), if_neg, dataLt_int, decide_eq_false (by omega)]
  · rfl
  · simp only [PyData.eqv, beq_iff_eq]
    omega
theorem rwk_sorted {k : Nat} : ∀ {ms : List Mv} {l j : Nat}, MOk l ms → (rwk k j ms).Pairwise fun a b => dataLe false EntD a b = true
  | [], _, _, _ => .nil
  | m :: ms, l, j, o => by
    obtain ⟨_, _, o3, _, _, _, _, o8⟩ := o
    rw [rwk]
    exact .cons (fun e he => ent_le (by have := rwk_time o8 e he; show m.time < e.1; omega)) (rwk_sorted o8)
theorem rws_out {t : Nat} : ∀ {tr : List (List Mv)} {k : Nat}, t < k + 1 → (rws k tr).filter (fun e => decide (e.2.1 = t)) = []
  | [], _, _ => rfl
  | ms :: tr, k, h => by
    rw [rws, List.filter_append, rws_out (by omega), List.append_nil, List.filter_eq_nil_iff]
    intro e he
    have := rwk_trk e he
    simp only [decide_eq_true_eq]
    omega
theorem rws_in {ms : List Mv} : ∀ {tr : List (List Mv)} {k i : Nat}, tr[i]? = some ms → (rws k tr).filter (fun e => decide (e.2.1 = k + i + 1)) = rwk (k + i) 0 ms
  | [], _, _, h => by simp at h
  | ns :: tr, k, 0, h => by
    cases h
    rw [rws, List.filter_append, rws_out (by omega), List.append_nil, List.filter_eq_self.mpr]
    · rfl
    · intro e he
      exact decide_eq_true (rwk_trk e he)
  | ns :: tr, k, i + 1, h => by
    have ih := rws_in (k := k + 1) (i := i) (tr := tr) h
    rw [rws, List.filter_append, List.filter_eq_nil_iff.mpr, List.nil_append, show k + (i + 1) = k + 1 + i by omega]
    · exact ih
    · intro e he
      have := rwk_trk e he
      simp only [decide_eq_true_eq]
      omega
theorem rws_mem : ∀ {tr : List (List Mv)} {k : Nat}, ∀ e ∈ rws k tr, ∃ i ms, e.2.1 = k + i + 1 ∧ tr[i]? = some ms ∧ e.2.2 < ms.length
  | [], _, _, h => nomatch h
  | ms :: tr, k, e, h => by
    rw [rws] at h
    rcases List.mem_append.mp h with h | h
    · refine ⟨0, ms, rwk_trk e h, rfl, ?_⟩
      have : e.2 ∈ (rwk k 0 ms).map (·.2) := List.mem_map.mpr ⟨e, h, rfl⟩
      rw [rwk_map] at this
      obtain ⟨j, hj, ej⟩ := List.mem_map.mp this
      rw [← ej]
      have := (List.mem_range'_1.mp hj).2
      show j < ms.length
      omega
    · obtain ⟨i, ns, h1, h2, h3⟩ := rws_mem e h
      exact ⟨i + 1, ns, by omega, h2, h3⟩
theorem rws_len : ∀ {tr : List (List Mv)} {k : Nat}, (rws k tr).length = tr.flatten.length
  | [], _ => rfl
  | ms :: tr, k => by rw [rws, List.length_append, rwk_len, rws_len, List.flatten_cons, List.length_append]
structure OrdOk (tr : List (List Mv)) (ord : List (Nat × Nat)) : Prop where
  mem : ∀ e ∈ ord, ∃ i ms, e.1 = i + 1 ∧ tr[i]? = some ms ∧ e.2 < ms.length
  flt : ∀ i ms, tr[i]? = some ms → ord.filter (fun e => decide (e.1 = i + 1)) = (List.range ms.length).map fun j => (i + 1, j)
  len : ord.length = tr.flatten.length
theorem ordOk_sort {tr : List (List Mv)} (h : ∀ ms ∈ tr, MOk 0 ms) : OrdOk tr (((rws 0 tr).mergeSort (dataLe false EntD)).map (·.2)) := by
  have tot : TotalLe (dataLe false EntD) := sortLe_total _ _ _
  have pm := List.mergeSort_perm (rws 0 tr) (dataLe false EntD)
  refine ⟨fun e he => ?_, fun i ms hi => ?_, ?_⟩
  · obtain ⟨r, hr, rfl⟩ := List.mem_map.mp he
    obtain ⟨i, ms, h1, h2, h3⟩ := rws_mem r (pm.mem_iff.mp hr)
    exact ⟨i, ms, by omega, h2, h3⟩
  · rw [List.filter_map]
    have hin := rws_in (k := 0) hi
    rw [Nat.zero_add] at hin
    have hs : (rwk i 0 ms).Sublist ((rws 0 tr).mergeSort (dataLe false EntD)) :=
      List.sublist_mergeSort (le := dataLe false EntD) (fun a b c h1 h2 => tot.trans a b c h1 h2) (fun a b => Bool.or_eq_true_iff.mpr (tot.total a b)) (rwk_sorted (h ms (List.mem_of_getElem? hi))) (by rw [← hin]; exact List.filter_sublist ..)
    have h2 := hs.filter (fun e : EntT => decide (e.2.1 = i + 1))
    rw [List.filter_eq_self.mpr fun e he => decide_eq_true (rwk_trk e he)] at h2
    have hl : (rwk i 0 ms).length = (((rws 0 tr).mergeSort (dataLe false EntD)).filter (fun e : EntT => decide (e.2.1 = i + 1))).length := by
      rw [(pm.filter _).length_eq, hin]
    have e := h2.eq_of_length hl
    show List.map _ (List.filter (fun e : EntT => decide (e.2.1 = i + 1)) _) = _
    rw [← e, rwk_map, List.range_eq_range']
  · rw [List.length_map, pm.length_eq, rws_len]
def sp_in_times : Sp := fun vs H Q _ => ∃ (G : Hp) (r : V) (tr : List (List Mv)), Same G H ∧ vs = [r] ∧ Rp G r (MvsD tr) ∧ tr.flatten.length ≤ 60 ∧ tr.length ≤ 100 ∧ (∀ ms ∈ tr, MOk 0 ms) ∧ Post G H Q fun v G' => ∃ ord, Rp G' v (.list (ord.map PairD)) ∧ OrdOk tr ord
theorem sc_in_times : FnScope n_in_times p_in_times (defScope s_in_times) := ⟨rfl, rfl, rfl, by decide +kernel, rfl, by decide +kernel, by decide +kernel⟩
theorem ok_in_times (T : Facts K mg) : FnOk P w K mg base CX0 1 (fA K "in_times") (fD K "in_times") p_in_times sp_in_times := by
  refine T.in_times.F.ok sc_in_times (fun vs H Q E h => ?_) (fun cdv A outer s H vs Q E hr h => ?_)
  · obtain ⟨G, r, tr, _, rfl, _⟩ := h
    rfl
  · obtain ⟨G, r, tr, sG, rfl, hr0, l1, l2, ok, q⟩ := h
    obtain ⟨a, xs, rfl, ha, hx⟩ := hr0.list
    have lx : xs.length = tr.length := by rw [hx.len, List.length_map]
    refine ⟨_, PSs.nox (pss_cons (ps_set (i := 1) sc_in_times.nd rfl (.inl rfl) (pe_lst pa_nil))
  (pss_cons (ps_for PassesOwn.never rfl (pi_range1 rfl T.z_range (pa_cons (pe_callB call_len_seq rfl T.z_len bi_len (pa_cons (pv 0) pa_nil)) pa_nil)) (pg_name (i := 2) sc_in_times.nd rfl (.inl rfl))
    (pss_one (ps_for PassesOwn.never rfl (pi_range1 rfl T.z_range (pa_cons (pe_callB call_len_seq rfl T.z_len bi_len (pa_cons (pe_ix ix_list (pv 0) (pv 2) (fun _ _ => rfl)) pa_nil)) pa_nil)) (pg_name (i := 3) sc_in_times.nd rfl (.inl rfl))
    (pss_one (ps_expr (pe_bm PySem.F.plainAttrs_list PySem.F.slot_list_append PySem.F.type_list_append mt_append (pv 1) (pa_cons (pe_tup (pa_cons (pe_ix ix_tup (pe_ix ix_list (pe_ix ix_list (pv 0) (pv 2) (fun _ _ => rfl)) (pv 3) (fun _ _ => rfl)) pe_int (fun _ _ => rfl)) (pa_cons (pe_op op_add (pv 2) pe_int) (pa_cons (pv 3) pa_nil)))) pa_nil)))))))
  (pss_one (ps_ret (pe_lc (own := [("_", 4), ("track", 5), ("ordinal", 6)]) rfl sc_in_times.nd (pi_list (pe_callB (cr_sortedD hr.units) rfl T.z_sorted bi_sorted (pa_cons (pv 1) pa_nil))) (blkOk_by (own := [("_", 4), ("track", 5), ("ordinal", 6)]) (N := n_in_times) (sc := defScope s_in_times) (by decide +kernel)) (fun _ _ _ _ _ => (pg_tupK (K := K) (n := 3) rfl rfl (pgs_cons (pg_name (i := 4) sc_in_times.nd rfl (.inl rfl)) (pgs_cons (pg_name (i := 5) sc_in_times.nd rfl (.inl rfl)) (pgs_cons (pg_name (i := 6) sc_in_times.nd rfl (.inl rfl)) pgs_nil))))) (fun _ _ _ _ _ => pts_nil) (fun _ _ _ _ _ => (pe_tup (pa_cons (pv 5) (pa_cons (pv 6) pa_nil))))))))), ?_⟩
    have A : Adv0 G H G H := .refl sG
    walk_at "sp"
    refine ⟨Nat.zero_le _, S_newM A fun o H1 A1 co fo _ => ?_⟩
    walk_at "sp"
    refine S_rn1 (k := tr.length) (by rw [lx]) (by omega) (S_forR (fun i σ H2 => ∃ (x2 x3 x4 x5 x6 : Option V) (G2 : Hp) (vs : List V), σ = [some (.ref a), some (.ref o), x2, x3, x4, x5, x6] ∧ Adv0 G H G2 H2 ∧ Cl No H G2 H2 o (.lst vs) ∧ RpL G2 vs ((rws 0 (tr.take i)).map EntD))
      ⟨none, none, none, none, none, G, [], rfl, A1, co, .nil⟩ ?_ ?_)
    · rintro i σ H2 hi ⟨x2, x3, x4, x5, x6, G2, vs, rfl, A2, co, rl⟩
      have hti : tr[i]? = some (tr[i]'hi) := List.getElem?_eq_getElem hi
      generalize tr[i]'hi = ms at hti
      obtain ⟨v, hv, rv⟩ := hx.get (d := .list (ms.map MvD)) (by rw [List.getElem?_map, hti]; rfl)
      obtain ⟨b, ys, rfl, hb, hy⟩ := rv.list
      have ly : ys.length = ms.length := by rw [hy.len, List.length_map]
      have hsn : rws 0 (tr.take (i + 1)) = rws 0 (tr.take i) ++ rwk i 0 ms := by
        rw [take_snoc hti, rws_snoc, List.length_take, Nat.min_eq_left (by omega), Nat.zero_add]
      have htot : (rws 0 (tr.take (i + 1))).length ≤ 60 := by
        rw [rws_len]
        have : (tr.take (i + 1)).flatten.length ≤ tr.flatten.length := by
          conv => rhs; rw [← List.take_append_drop (i + 1) tr, List.flatten_append, List.length_append]
          omega
        omega
      rw [hsn, List.length_append, rwk_len] at htot
      walk_at "sp"
      refine S_ixL (A2.l ha) (atI_n (Int.zero_add _) hv) ?_
      walk_at "sp"
      refine S_rn1 (k := ms.length) (by rw [ly]) (by omega) (S_forR (fun j σ H3 => ∃ (x3 x4 x5 x6 : Option V) (G3 : Hp) (vs : List V), σ = [some (.ref a), some (.ref o), some (.int (0 + (i : Nat))), x3, x4, x5, x6] ∧ Adv0 G H G3 H3 ∧ Cl No H G3 H3 o (.lst vs) ∧ RpL G3 vs ((rws 0 (tr.take i) ++ rwk i 0 (ms.take j)).map EntD))
        ⟨x3, x4, x5, x6, G2, vs, rfl, A2, co, by simpa [rwk] using rl⟩ ?_ ?_)
      · rintro j σ H3 hj ⟨x3, x4, x5, x6, G3, vs, rfl, A3, co, rl⟩
        have hmj : ms[j]? = some (ms[j]'hj) := List.getElem?_eq_getElem hj
        generalize ms[j]'hj = m at hmj
        obtain ⟨y, hy2, ry⟩ := hy.get (get_map (f := MvD) hmj)
        obtain ⟨c, d, rfl, hc, hd⟩ := ry.mv
        have lvs := rl.len
        rw [List.length_map, List.length_append, rwk_len, List.length_take] at lvs
        walk_at "sp"
        refine S_ixL (A3.l ha) (atI_n (Int.zero_add _) hv) ?_
        walk_at "sp"
        refine S_ixL (A3.l hb) (atI_n (Int.zero_add _) hy2) ?_
        walk_at "sp"
        refine ⟨line_le (by simp), S_newF A3 fun p4 G4 H4 A4 g4 hp4 mm => ?_⟩
        have co := mm _ _ co
        clear mm
        walk_at "sp"
        refine S_app' A4 co (by omega) fun H5 A5 co _ => ?_
        refine ⟨_, _, _, _, G4, _, rfl, A5, co, ?_⟩
        rw [take_snoc hmj, rwk_snoc, List.length_take, Nat.min_eq_left (by omega), ← List.append_assoc, List.map_append]
        refine (rl.mono g4).snoc (.tup hp4 (.cons (.int _) (.cons ?_ (.cons ?_ .nil))))
        · rw [show (0 : Int) + (i : Nat) + 1 = ((i + 1 : Nat) : Int) by omega]
          exact .int _
        · rw [show (0 : Int) + (j : Nat) = ((0 + j : Nat) : Int) by omega]
          exact .int _
      · rintro σ H3 ⟨x3, x4, x5, x6, G3, vs, rfl, A3, co, rl⟩
        rw [List.take_length, ← hsn] at rl
        walk_at "sp"
        exact ⟨_, _, _, _, _, G3, vs, rfl, A3, co, rl⟩
    · rintro σ H2 ⟨x2, x3, x4, x5, x6, G2, vs, rfl, A2, co, rl⟩
      rw [List.take_length] at rl
      walk_at "sp"
      refine ⟨EntT, EntD, G2, o, vs, rws 0 tr, rfl, co.l, A2.gh, rl, fun b => ⟨_, _, rfl⟩, fun _ _ => by simp [alike, alikeAll], fun b => by simp [PyData.depth, PyData.depthAll], fun ys rys => S_newF A2 fun p3 G3 H3 A3 g3 hp3 _ => ?_⟩
      have hlen : (rws 0 tr).length ≤ 60 := by rw [rws_len]; exact l1
      have := List.length_mergeSort (le := dataLe false EntD) (rws 0 tr)
      walk_at "sp"
      refine S_lcL (ds := ((rws 0 tr).mergeSort (dataLe false EntD)).map EntD) (fun d => match d with | .tuple [_, t, j] => some (.tuple [t, j]) | _ => none) A3.gh hp3 (rys.mono g3) (by rw [List.length_map]; omega) (fun i x d G4 H4 hxi hd A4 rx Qy Qn qy _ => ?_) (fun D G4 H4 acc A4 hD r => ?_)
      · obtain ⟨e, he, rfl⟩ := get_map_inv hd
        obtain ⟨b, zs, rfl, hb, rz⟩ := rx.tuple
        rcases rz with _ | ⟨⟨⟩, _ | ⟨⟨⟩, _ | ⟨⟨⟩, _ | _⟩⟩⟩
        refine S_gtup (qt A4.gh hb) rfl ?_
        walk_at "sp"
        refine ⟨rfl, ?_⟩
        walk_at "sp"
        refine ⟨line_le (by simp), S_newF (M := No) (G0 := G4) (H0 := H4) (.refl A4.gh) fun p5 G5 H5 A5 g5 hp5 _ => ?_⟩
        exact qy _ rfl _ _ _ A5 (.tup hp5 (.cons (.int _) (.cons (.int _) .nil)))
      · rw [fm_map _ EntD _ (fun e => PairD e.2) fun e _ => rfl] at r
        refine q _ _ _ (A3.call A4) ⟨_, .lst hD ?_, ordOk_sort ok⟩
        rw [List.map_map]
        exact r
end
/-! w40 -/
section
/-! ### what is written -/
def lMv (l : Lf) : Mv := ⟨l.time, l.span, l.key, l.body⟩
def mvAt (tr : List (List Mv)) (e : Nat × Nat) : Mv := (tr.getD (e.1 - 1) []).getD e.2 ⟨0, 0, 0, []⟩
def uLf (s n : Nat) (m : Mv) (e : Nat × Nat) : Lf := ⟨2, s, n, e.1, e.2, m.time, m.span, m.key, m.body⟩
def usF (tr : List (List Mv)) (s : Nat) : Nat → List (Nat × Nat) → List Lf
  | _, [] => []
  | n, e :: r => uLf s n (mvAt tr e) e :: usF tr s (n + 1) r
theorem mvAt_eq {tr : List (List Mv)} {i j : Nat} {ms : List Mv} {m : Mv} (h : tr[i]? = some ms) (h2 : ms[j]? = some m) : mvAt tr (i + 1, j) = m := by
  show (tr.getD (i + 1 - 1) []).getD j _ = m
  rw [Nat.add_sub_cancel, List.getD_eq_getElem?_getD, List.getD_eq_getElem?_getD, h, Option.getD_some, h2, Option.getD_some]
theorem usF_len {tr : List (List Mv)} {s : Nat} : ∀ {ord : List (Nat × Nat)} {n : Nat}, (usF tr s n ord).length = ord.length
  | [], _ => rfl
  | _ :: r, n => by rw [usF, List.length_cons, List.length_cons, usF_len]
theorem usF_get {tr : List (List Mv)} {s : Nat} : ∀ {ord : List (Nat × Nat)} {n i : Nat} {e : Nat × Nat}, ord[i]? = some e → (usF tr s n ord)[i]? = some (uLf s (n + i) (mvAt tr e) e)
  | [], _, _, _, h => by simp at h
  | e :: r, n, 0, _, h => by
    cases h
    rfl
  | _ :: r, n, i + 1, e, h => by
    rw [usF, List.getElem?_cons_succ, usF_get (i := i) h, show n + 1 + i = n + (i + 1) by omega]
theorem usF_inv {tr : List (List Mv)} {s n i : Nat} {ord : List (Nat × Nat)} {l : Lf} (h : (usF tr s n ord)[i]? = some l) : ∃ e, ord[i]? = some e ∧ l = uLf s (n + i) (mvAt tr e) e := by
  have hi := (List.getElem?_eq_some_iff.mp h).1
  rw [usF_len] at hi
  have he : ord[i]? = some ord[i] := List.getElem?_eq_getElem hi
  refine ⟨_, he, ?_⟩
  have := usF_get (tr := tr) (s := s) (n := n) he
  rw [h] at this
  exact Option.some.inj this
theorem usF_take {tr : List (List Mv)} {s : Nat} : ∀ {ord : List (Nat × Nat)} {n i : Nat}, (usF tr s n ord).take i = usF tr s n (ord.take i)
  | [], _, i => by simp [usF]
  | _ :: _, n, 0 => rfl
  | e :: r, n, i + 1 => by rw [usF, List.take_succ_cons, List.take_succ_cons, usF, usF_take]
theorem usF_snoc {tr : List (List Mv)} {s : Nat} {e : Nat × Nat} : ∀ {ord : List (Nat × Nat)} {n : Nat}, usF tr s n (ord ++ [e]) = usF tr s n ord ++ [uLf s (n + ord.length) (mvAt tr e) e]
  | [], n => rfl
  | _ :: r, n => by
    rw [List.cons_append, usF, usF, usF_snoc, List.cons_append, List.length_cons, show n + 1 + r.length = n + (r.length + 1) by omega]
theorem usF_trk {tr : List (List Mv)} {s t : Nat} : ∀ {ord : List (Nat × Nat)} {n : Nat}, (trk t (usF tr s n ord)).map (fun l => (l.track, l.ord)) = ord.filter fun e => decide (e.1 = t)
  | [], _ => rfl
  | e :: r, n => by
    have ih := usF_trk (tr := tr) (s := s) (t := t) (ord := r) (n := n + 1)
    unfold trk at ih ⊢
    rw [usF, List.filter_cons, List.filter_cons]
    by_cases c : e.1 = t
    · rw [if_pos (by exact decide_eq_true c), if_pos (decide_eq_true c), List.map_cons, ih]
      rfl
    · rw [if_neg (by intro z; exact c (of_decide_eq_true z)), if_neg (by intro z; exact c (of_decide_eq_true z)), ih]
theorem usF_mv {tr : List (List Mv)} {s : Nat} {ord : List (Nat × Nat)} {n : Nat} : ∀ l ∈ usF tr s n ord, lMv l = mvAt tr (l.track, l.ord) := fun l hl => by
  obtain ⟨i, hi⟩ := List.mem_iff_getElem?.mp hl
  obtain ⟨e, _, rfl⟩ := usF_inv hi
  rfl
theorem range_mv {tr : List (List Mv)} {i : Nat} {ms : List Mv} (h : tr[i]? = some ms) {j : Nat} (hj : j ≤ ms.length) : ((List.range j).map fun j => (i + 1, j)).map (mvAt tr) = ms.take j := by
  refine List.ext_getElem? fun k => ?_
  rw [List.map_map, List.getElem?_map]
  by_cases c : k < j
  · have hm : ms[k]? = some (ms[k]'(by omega)) := List.getElem?_eq_getElem (by omega)
    rw [List.getElem?_range c, List.getElem?_take_of_lt c, hm]
    exact congrArg some (mvAt_eq h hm)
  · rw [List.getElem?_eq_none (by rw [List.length_range]; omega), List.getElem?_eq_none (by rw [List.length_take]; omega)]
    rfl
theorem ord_pre {ord : List (Nat × Nat)} {t n i j : Nat} (hf : ord.filter (fun e => decide (e.1 = t)) = (List.range n).map fun j => (t, j)) (hi : ord[i]? = some (t, j)) : (ord.take i).filter (fun e => decide (e.1 = t)) = (List.range j).map (fun j => (t, j)) ∧ j < n := by
  have hs : ord.filter (fun e => decide (e.1 = t)) = (ord.take i).filter (fun e => decide (e.1 = t)) ++ (t, j) :: (ord.drop (i + 1)).filter (fun e => decide (e.1 = t)) := by
    conv => lhs; rw [← List.take_append_drop i ord, drop_cons hi, List.filter_append, List.filter_cons, if_pos (by exact decide_eq_true rfl)]
  rw [hf] at hs
  generalize (ord.take i).filter (fun e => decide (e.1 = t)) = a at hs ⊢
  generalize (ord.drop (i + 1)).filter (fun e => decide (e.1 = t)) = b at hs
  have hl := congrArg List.length hs
  rw [List.length_map, List.length_range, List.length_append, List.length_cons] at hl
  have ha : ((List.range n).map fun j => (t, j))[a.length]? = some (t, j) := by rw [hs, List.getElem?_append_right (Nat.le_refl _), Nat.sub_self]; rfl
  rw [List.getElem?_map, List.getElem?_range (by omega)] at ha
  have hj : a.length = j := by
    have := Option.some.inj ha
    exact congrArg Prod.snd this
  refine ⟨?_, by omega⟩
  have := congrArg (List.take j) hs
  rw [List.take_append_of_le_length (by omega), ← hj, List.take_length, ← List.map_take, List.take_range, Nat.min_eq_left (by omega)] at this
  rw [← this, hj]
theorem MOk.at : ∀ {ms : List Mv} {l i : Nat} {m : Mv}, MOk l ms → ms[i]? = some m → l ≤ m.time ∧ m.time < 1099511627776 ∧ 1 ≤ m.span ∧ m.span < 16777216 ∧ m.key ≤ 1 ∧ m.body.length ≤ 1024 ∧ Bys m.body
  | [], _, _, _, _, h => by simp at h
  | n :: ms, l, 0, m, o, h => by
    cases h
    obtain ⟨o1, o2, o3, o4, o5, o6, o7, _⟩ := o
    exact ⟨o1, o2, o3, o4, o5, o6, o7⟩
  | n :: ms, l, i + 1, m, o, h => by
    obtain ⟨o1, _, o3, _, _, _, _, o8⟩ := o
    obtain ⟨k1, k2⟩ := MOk.at (i := i) o8 h
    exact ⟨by omega, k2⟩
theorem MOk.next : ∀ {ms : List Mv} {l i : Nat} {m n : Mv}, MOk l ms → ms[i]? = some m → ms[i + 1]? = some n → m.time + m.span ≤ n.time
  | [], _, _, _, _, _, h, _ => by simp at h
  | a :: ms, l, 0, m, n, o, h, h2 => by
    cases h
    exact (o.2.2.2.2.2.2.2.at (i := 0) h2).1
  | a :: ms, l, i + 1, m, n, o, h, h2 => MOk.next (i := i) o.2.2.2.2.2.2.2 h h2
def nkOf (rows : List RowT) : List (Str × Str) := rows.map fun r => (r.1, r.2.1)
def rowsN (nk : List (Str × Str)) (tr : List (List Mv)) : List RowT := List.zipWith (fun x ms => (x.1, x.2, ms.length)) nk tr
structure WIn (tk sk s : Nat) (nk : List (Str × Str)) (tags : List TagT) (tr : List (List Mv)) : Prop where
  s : s ≤ 1000
  tk : 1 ≤ tk ∧ tk ≤ 90000
  sk : sk < 1099511627776
  len : nk.length = tr.length
  l4 : tr.length ≤ 4
  nk : ∀ x ∈ nk, x.1.length ≤ 32 ∧ LineOk x.1 ∧ WordOk x.2
  tagsL : tags.length ≤ 10
  tag : ∀ t ∈ tags, TagOk t
  sort : TSort tags
  mok : ∀ ms ∈ tr, MOk 0 ms
  key : ∀ ms ∈ tr, ∀ m, ms[0]? = some m → m.key = 1
  tot : tr.flatten.length ≤ 50
structure FileIs (tk sk : Nat) (nk : List (Str × Str)) (tags : List TagT) (tr : List (List Mv)) (F : Fl) : Prop where
  fv : FV F
  etk : F.tk = tk
  esk : F.sk = sk
  erows : F.rows = rowsN nk tr
  etags : F.tags = tags
  trs : ∀ k ms, tr[k]? = some ms → (trk (k + 1) F.us).map lMv = ms
  win : ∃ s, WIn tk sk s nk tags tr
def fnd (tr : List (List Mv)) (s : Nat) (es : List (Nat × Nat)) : List Lf → List (Nat × Nat) → List EntT
  | _, [] => []
  | ls, e :: r => (if e ∈ es then [(e.1, (mvAt tr e).time, (fileB ls).length)] else []) ++ fnd tr s es (ls ++ [uLf s ls.length (mvAt tr e) e]) r
theorem fnd_snoc {tr : List (List Mv)} {s : Nat} {es : List (Nat × Nat)} {e : Nat × Nat} : ∀ {r : List (Nat × Nat)} {ls : List Lf}, fnd tr s es ls (r ++ [e]) = fnd tr s es ls r ++ if e ∈ es then [(e.1, (mvAt tr e).time, (fileB (ls ++ usF tr s ls.length r)).length)] else []
  | [], ls => by simp [fnd, usF]
  | d :: r, ls => by
    rw [List.cons_append, fnd, fnd, fnd_snoc, List.append_assoc, List.append_assoc, List.length_append, List.length_cons, List.length_nil, usF]
    simp
theorem fnd_len {tr : List (List Mv)} {s : Nat} {es : List (Nat × Nat)} : ∀ {r : List (Nat × Nat)} {ls : List Lf}, (fnd tr s es ls r).length ≤ r.length
  | [], _ => Nat.le_refl _
  | e :: r, ls => by
    rw [fnd, List.length_append, List.length_cons]
    have := fnd_len (tr := tr) (s := s) (es := es) (r := r) (ls := ls ++ [uLf s ls.length (mvAt tr e) e])
    split <;> simp <;> omega
theorem fnd_mem {tr : List (List Mv)} {s : Nat} {es : List (Nat × Nat)} : ∀ {r : List (Nat × Nat)} {ls : List Lf}, ∀ x ∈ fnd tr s es ls r, ∃ i e, r[i]? = some e ∧ e ∈ es ∧ x = (e.1, (mvAt tr e).time, (fileB (ls ++ (usF tr s ls.length r).take i)).length)
  | [], _, _, h => nomatch h
  | e :: r, ls, x, h => by
    rw [fnd] at h
    rcases List.mem_append.mp h with h | h
    · by_cases c : e ∈ es
      · rw [if_pos c, List.mem_singleton] at h
        exact ⟨0, e, rfl, c, by simpa using h⟩
      · rw [if_neg c] at h
        cases h
    · obtain ⟨i, d, h1, h2, h3⟩ := fnd_mem x h
      refine ⟨i + 1, d, h1, h2, ?_⟩
      rw [h3, List.length_append, List.length_cons, List.length_nil, usF, List.take_succ_cons]
      simp
theorem fnd_ge {tr : List (List Mv)} {s : Nat} {es : List (Nat × Nat)} {r : List (Nat × Nat)} {ls : List Lf} : ∀ x ∈ fnd tr s es ls r, (fileB ls).length ≤ x.2.2 := fun x hx => by
  obtain ⟨i, e, _, _, rfl⟩ := fnd_mem x hx
  show _ ≤ (fileB (ls ++ _)).length
  rw [fileB_app, List.length_append]
  omega
theorem fnd_asc {tr : List (List Mv)} {s : Nat} {es : List (Nat × Nat)} : ∀ {r : List (Nat × Nat)} {ls : List Lf}, (fnd tr s es ls r).Pairwise fun a b => a.2.2 < b.2.2
  | [], _ => .nil
  | e :: r, ls => by
    rw [fnd, List.pairwise_append]
    refine ⟨?_, fnd_asc, fun a ha b hb => ?_⟩
    · split
      · exact List.pairwise_singleton _ _
      · exact .nil
    · by_cases c : e ∈ es
      · rw [if_pos c, List.mem_singleton] at ha
        subst ha
        have h1 := fnd_ge b hb
        rw [fileB_snoc, List.length_append] at h1
        have := lfB_pos (uLf s ls.length (mvAt tr e) e)
        show (fileB ls).length < _
        omega
      · rw [if_neg c] at ha
        cases ha
/-- the file that is written -/
def mkF0 (tk sk s : Nat) (nk : List (Str × Str)) (tags : List TagT) (tr : List (List Mv)) (us : List Lf) (es : List EntT) : Fl := ⟨s, tk, sk, rowsN nk tr, tags, us, es⟩
def preF (tk sk s : Nat) (nk : List (Str × Str)) (tags : List TagT) (tr : List (List Mv)) : List Lf := pre (mkF0 tk sk s nk tags tr [] [])
def mkF (tk sk s : Nat) (nk : List (Str × Str)) (tags : List TagT) (tr : List (List Mv)) (ord es : List (Nat × Nat)) : Fl :=
  mkF0 tk sk s nk tags tr (usF tr s (preF tk sk s nk tags tr).length ord) (fnd tr s es (preF tk sk s nk tags tr) ord)
theorem pre_mk (tk sk s : Nat) (nk : List (Str × Str)) (tags : List TagT) (tr : List (List Mv)) (us : List Lf) (es : List EntT) : pre (mkF0 tk sk s nk tags tr us es) = preF tk sk s nk tags tr := rfl
theorem pre_mkF (tk sk s : Nat) (nk : List (Str × Str)) (tags : List TagT) (tr : List (List Mv)) (ord es : List (Nat × Nat)) : pre (mkF tk sk s nk tags tr ord es) = preF tk sk s nk tags tr := rfl
structure EntIn (tr : List (List Mv)) (e : Nat × Nat) : Prop where
  e : ∃ i ms m, e.1 = i + 1 ∧ tr[i]? = some ms ∧ 1 ≤ e.2 ∧ ms[e.2]? = some m ∧ m.key = 1
theorem rowsN_get {nk : List (Str × Str)} {tr : List (List Mv)} {i : Nat} {r : RowT} (h : (rowsN nk tr)[i]? = some r) : ∃ x ms, nk[i]? = some x ∧ tr[i]? = some ms ∧ r = (x.1, x.2, ms.length) := by
  rw [rowsN, List.getElem?_zipWith_eq_some] at h
  obtain ⟨x, ms, h1, h2, h3⟩ := h
  exact ⟨x, ms, h1, h2, h3.symm⟩
theorem rowsN_len {tk sk s : Nat} {nk : List (Str × Str)} {tags : List TagT} {tr : List (List Mv)} (W : WIn tk sk s nk tags tr) : (rowsN nk tr).length = tr.length := by
  rw [rowsN, List.length_zipWith, W.len, Nat.min_self]
theorem len_le_flat {α : Type} : ∀ {tr : List (List α)} {ms : List α}, ms ∈ tr → ms.length ≤ tr.flatten.length
  | t :: tr, ms, h => by
    rw [List.flatten_cons, List.length_append]
    rcases List.mem_cons.mp h with rfl | h
    · omega
    · have := len_le_flat h
      omega
theorem mkF_lf {tk sk s : Nat} {nk : List (Str × Str)} {tags : List TagT} {tr : List (List Mv)} {ord : List (Nat × Nat)} (W : WIn tk sk s nk tags tr) (O : OrdOk tr ord) {e : Nat × Nat} (he : e ∈ ord) {n : Nat} (hn : n ≤ 1000) : LfOk (uLf s n (mvAt tr e) e) := by
  obtain ⟨k, ms, h1, h2, h3⟩ := O.mem e he
  have hk := (List.getElem?_eq_some_iff.mp h2).1
  have hm : ms[e.2]? = some (ms[e.2]'h3) := List.getElem?_eq_getElem h3
  have em : mvAt tr e = ms[e.2]'h3 := by
    rw [← mvAt_eq h2 hm, ← h1]
  have hmm := List.mem_of_getElem? h2
  have hl := len_le_flat hmm
  have w1 := W.s
  have w2 := W.l4
  have w3 := W.tot
  obtain ⟨o1, o2, o3, o4, o5, o6, o7⟩ := (W.mok ms hmm).at hm
  rw [em]
  exact ⟨by show 2 ≤ 4; omega, by show s ≤ _; omega, by show n ≤ _; omega, by show e.1 ≤ _; omega, by show e.2 ≤ _; omega, by show Mv.time _ ≤ _; omega, by show Mv.span _ ≤ _; omega, o5, o6, o7⟩
theorem mkF_is {tk sk s : Nat} {nk : List (Str × Str)} {tags : List TagT} {tr : List (List Mv)} {ord es : List (Nat × Nat)} (W : WIn tk sk s nk tags tr) (O : OrdOk tr ord) (he : ∀ e ∈ es, EntIn tr e) : FileIs tk sk nk tags tr (mkF tk sk s nk tags tr ord es) := by
  have hp : (preF tk sk s nk tags tr).length ≤ 2 := by rw [preF, pre_len]; split <;> omega
  have hol := O.len
  have htot := W.tot
  have hrl := rowsN_len W
  have trs : ∀ k ms, tr[k]? = some ms → (trk (k + 1) (usF tr s (preF tk sk s nk tags tr).length ord)).map lMv = ms := fun k ms h => by
    have h1 : (trk (k + 1) (usF tr s (preF tk sk s nk tags tr).length ord)).map lMv = ((trk (k + 1) (usF tr s (preF tk sk s nk tags tr).length ord)).map fun l => (l.track, l.ord)).map (mvAt tr) := by
      rw [List.map_map]
      exact List.map_congr_left fun l hl => usF_mv l (List.mem_filter.mp hl).1
    rw [h1, usF_trk, O.flt k ms h, range_mv h (Nat.le_refl _), List.take_length]
  refine ⟨⟨?_, W.tk, W.sk, ?_, ?_, W.tagsL, W.tag, W.sort, ?_, ?_, ?_, ?_, ?_, ?_⟩, rfl, rfl, rfl, rfl, trs, s, W⟩
  · show s ≤ _
    have := W.s
    omega
  · show (rowsN nk tr).length ≤ 4
    rw [hrl]
    exact W.l4
  · intro r hr
    obtain ⟨i, hi⟩ := List.mem_iff_getElem?.mp hr
    obtain ⟨x, ms, h1, h2, rfl⟩ := rowsN_get hi
    obtain ⟨k1, k2, k3⟩ := W.nk x (List.mem_of_getElem? h1)
    have hl := len_le_flat (List.mem_of_getElem? h2)
    exact ⟨⟨k1, k3.2.1, by show ms.length ≤ 300; omega⟩, k2, k3⟩
  · show (usF tr s _ ord).length ≤ 50
    rw [usF_len]
    omega
  · show (fnd tr s es _ ord).length ≤ 50
    have := fnd_len (tr := tr) (s := s) (es := es) (r := ord) (ls := preF tk sk s nk tags tr)
    omega
  · intro i l hl
    obtain ⟨e, hi, rfl⟩ := usF_inv hl
    have hil := (List.getElem?_eq_some_iff.mp hi).1
    obtain ⟨k, ms, h1, h2, h3⟩ := O.mem e (List.mem_of_getElem? hi)
    have hk := (List.getElem?_eq_some_iff.mp h2).1
    obtain ⟨t, j⟩ := e
    obtain rfl : t = k + 1 := h1
    replace h3 : j < ms.length := h3
    have hm : ms[j]? = some (ms[j]'h3) := List.getElem?_eq_getElem h3
    have em := mvAt_eq h2 hm
    obtain ⟨o1, o2⟩ := ord_pre (O.flt k ms h2) hi
    have htk : (trk (k + 1) ((usF tr s (preF tk sk s nk tags tr).length ord).take i)).map lMv = ms.take j := by
      have h1 : (trk (k + 1) ((usF tr s (preF tk sk s nk tags tr).length ord).take i)).map lMv = ((trk (k + 1) ((usF tr s (preF tk sk s nk tags tr).length ord).take i)).map fun l => (l.track, l.ord)).map (mvAt tr) := by
        rw [List.map_map]
        exact List.map_congr_left fun l hl => usF_mv l (List.mem_of_mem_take (List.mem_filter.mp hl).1)
      rw [h1, usF_take, usF_trk, o1, range_mv h2 (Nat.le_of_lt h3)]
    have hms := List.mem_of_getElem? h2
    refine ⟨rfl, rfl, rfl, mkF_lf W O (List.mem_of_getElem? hi) (by omega), ?_, ?_, ?_, ?_, ?_, ?_⟩
    · show 1 ≤ k + 1
      omega
    · show k + 1 ≤ (rowsN nk tr).length
      omega
    · show j = _
      have := congrArg List.length htk
      rw [List.length_map, List.length_take] at this
      show j = (trk (k + 1) ((usF tr s (preF tk sk s nk tags tr).length ord).take i)).length
      omega
    · show 1 ≤ (mvAt tr (k + 1, j)).span
      rw [em]
      exact ((W.mok ms hms).at hm).2.2.1
    · intro (hj : j = 0)
      show (mvAt tr (k + 1, j)).key = 1
      rw [em]
      exact W.key ms hms _ (by rw [← hm, hj])
    · intro m hm2
      replace hm2 : (trk (k + 1) ((usF tr s (preF tk sk s nk tags tr).length ord).take i)).getLast? = some m := hm2
      show m.time + m.span ≤ (mvAt tr (k + 1, j)).time
      rw [em]
      have h4 : (ms.take j).getLast? = some (lMv m) := by rw [← htk, List.getLast?_map, hm2]; rfl
      rw [List.getLast?_eq_getElem?, List.length_take, Nat.min_eq_left (Nat.le_of_lt h3)] at h4
      cases j with
      | zero => simp at h4
      | succ j =>
        rw [Nat.add_sub_cancel, List.getElem?_take_of_lt (Nat.lt_succ_self _)] at h4
        exact (W.mok ms hms).next h4 hm
  · intro k r hr
    obtain ⟨x, ms, h1, h2, rfl⟩ := rowsN_get hr
    have := congrArg List.length (trs k ms h2)
    rw [List.length_map] at this
    exact this
  · intro x hx
    obtain ⟨i, e, h1, h2, rfl⟩ := fnd_mem x hx
    have hil := (List.getElem?_eq_some_iff.mp h1).1
    obtain ⟨k, ms, m, g1, g2, g3, g4, g5⟩ := (he e h2).e
    have em : mvAt tr e = m := by
      rw [← mvAt_eq g2 g4, ← g1]
    refine ⟨i, _, usF_get h1, ?_, ?_, ?_⟩
    · show (mvAt tr e).key = 1
      rw [em, g5]
    · show e.2 ≠ 0
      omega
    · show _ = (e.1, (mvAt tr e).time, off _ _)
      unfold off
      have : (lsE (mkF tk sk s nk tags tr ord es)).take ((pre (mkF tk sk s nk tags tr ord es)).length + i) = preF tk sk s nk tags tr ++ (usF tr s (preF tk sk s nk tags tr).length ord).take i := by
        have hu := lsU_len (mkF tk sk s nk tags tr ord es)
        have hI := lsI_len (mkF tk sk s nk tags tr ord es)
        have hus : (mkF tk sk s nk tags tr ord es).us.length = ord.length := usF_len
        rw [lsE, List.take_append_of_le_length (by omega), lsI, List.take_append_of_le_length (by omega), lsU, List.take_append, List.take_of_length_le (by omega), Nat.add_sub_cancel_left]
        rfl
      rw [this]
  · intro k a b ha hb
    have hb2 := (List.getElem?_eq_some_iff.mp hb)
    have ha2 := (List.getElem?_eq_some_iff.mp ha)
    obtain ⟨ia, ea⟩ := ha2
    obtain ⟨ib, eb⟩ := hb2
    have := (List.pairwise_iff_getElem.mp (fnd_asc (tr := tr) (s := s) (es := es) (r := ord) (ls := preF tk sk s nk tags tr))) k (k + 1) ia ib (Nat.lt_succ_self _)
    rw [← ea, ← eb]
    exact this
end
/-! w41 -/
section
variable {P : Program} {w : World} {K : PySem.W.Frag} {mg : Str → Option Value} {base : Heap}
theorem WR.nq {ls : List Lf} {G H : Hp} {o dx : Addr} {s : Nat} {lv d : Addr} (wr : WR K ls G H o dx s lv d) {q : Addr} (h : H q = none) : q ≠ o ∧ q ≠ lv ∧ q ≠ d := by
  obtain ⟨_, vs, hl, _⟩ := wr.lc
  refine ⟨?_, ?_, ?_⟩
  · rintro rfl
    rw [wr.ob] at h
    cases h
  · rintro rfl
    rw [hl] at h
    cases h
  · rintro rfl
    rw [wr.dt.2] at h
    cases h
theorem WR.call {ls : List Lf} {G H G' H' : Hp} {o dx : Addr} {s : Nat} {lv d : Addr} (wr : WR K ls G H o dx s lv d) (B : Adv0 G H G' H') : WR K ls G' H' o dx s lv d := wr.mono B (fun z => z) (fun z => z) (fun z => z)
theorem in_pairs {es : List (Nat × Nat)} {e : Nat × Nat} : ((es.map PairD).any fun z => PyData.eqv z (PairD e)) = decide (e ∈ es) := by
  rw [List.any_map]
  by_cases c : e ∈ es
  · rw [decide_eq_true c, List.any_eq_true]
    exact ⟨e, c, (Shp.tup (n := 0) (shp_cons (.int _ _) (shp_cons (.int _ _) shp_nil))).eqv⟩
  · rw [decide_eq_false c, List.any_eq_false]
    intro x hx h
    have h' : PyData.eqv (PairD x) (PairD e) = true := h
    simp only [PyData.eqv, PyData.eqvAll, Bool.and_eq_true, beq_iff_eq] at h'
    obtain ⟨h1, h2⟩ := h'
    have : x = e := Prod.ext (by omega) (by omega)
    exact c (this ▸ hx)
theorem shp_pairs (es : List (Nat × Nat)) : Shp 2 (.list (es.map PairD)) := .list fun d hd => by
  obtain ⟨e, _, rfl⟩ := List.mem_map.mp hd
  exact .tup (shp_cons (.int _ _) (shp_cons (.int _ _) shp_nil))
theorem nk_get {rows : List RowT} {nk : List (Str × Str)} (e : nkOf rows = nk) {i : Nat} {x : Str × Str} (h : nk[i]? = some x) : ∃ r, rows[i]? = some r ∧ r.1 = x.1 ∧ r.2.1 = x.2 := by
  subst e
  obtain ⟨r, h1, rfl⟩ := get_map_inv h
  exact ⟨r, h1, rfl, rfl⟩
theorem rows_range {nk : List (Str × Str)} {tr : List (List Mv)} {n : Nat} (h1 : nk.length = n) (h2 : tr.length = n) : (List.range n).map (fun k => PyData.tuple [.str (nk.getD k ("", "")).1, .str (nk.getD k ("", "")).2, .int ((tr.getD k []).length : Nat)]) = (rowsN nk tr).map RowD := by
  refine List.ext_getElem? fun k => ?_
  rw [List.getElem?_map, List.getElem?_map, rowsN, List.getElem?_zipWith]
  by_cases c : k < n
  · have a1 : nk[k]? = some (nk[k]'(by omega)) := List.getElem?_eq_getElem (by omega)
    have a2 : tr[k]? = some (tr[k]'(by omega)) := List.getElem?_eq_getElem (by omega)
    have g1 : nk.getD k ("", "") = nk[k]'(by omega) := by rw [List.getD_eq_getElem?_getD, a1]; rfl
    have g2 : tr.getD k [] = tr[k]'(by omega) := by rw [List.getD_eq_getElem?_getD, a2]; rfl
    rw [List.getElem?_range c, a1, a2]
    show some (PyData.tuple [.str (nk.getD k ("", "")).1, .str (nk.getD k ("", "")).2, .int ((tr.getD k []).length : Nat)]) = _
    rw [g1, g2]
    rfl
  · rw [List.getElem?_eq_none (by rw [List.length_range]; omega), List.getElem?_eq_none (l := nk) (by omega)]
    rfl
theorem Rp.hdr {G : Hp} {v : V} {tk sk : Nat} {rows : List RowT} (h : Rp G v (HeadD tk sk rows)) : ∃ a r xs, v = .ref a ∧ G a = some (.tup [.int tk, .int sk, .ref r]) ∧ G r = some (.lst xs) ∧ RpL G xs (rows.map RowD) := Rp.hd3 (F := ⟨0, tk, sk, rows, [], [], []⟩) h
theorem S_both {t : TS} {n : L2.St → Hp → Prop} {r : VK} {b c : L2.St → Hp → Prop} {σ : L2.St} {H : Hp} (J : L2.St → Hp → Prop) (hJ : ∀ σ H, J σ H → n σ H) (h : ∀ n', (∀ σ H, J σ H → n' σ H) → t ⟨n', r, b, c⟩ σ H) : t ⟨n, r, b, c⟩ σ H := h n hJ
theorem wr_plain {F : Fl} {n : Nat} {G H : Hp} {o dx lv d : Addr} {kind : Nat} {body : List Int} {r : V} {Q : VK} {E : XK} (fv : FV F) (sG : Same G H) (wr : WR K ((lsE F).take n) G H o dx F.stamp lv d) (hl : (lsE F)[n]? = some (pl F kind n body)) (hn : n ≤ 90) (hr : Rp G r (IntsD body))
    (k : ∀ G' H', Adv (fun q => q = lv ∨ q = d) G H G' H' → WR K ((lsE F).take (n + 1)) G' H' o dx F.stamp lv d → Q .non H') : sp_LeafWriter_add_plain K [.ref o, .int kind, r] H Q E := by
  have hi := (List.getElem?_eq_some_iff.mp hl).1
  have hlen : ((lsE F).take n).length = n := by rw [List.length_take]; omega
  have ok := lf_ok fv hl
  refine ⟨G, o, dx, F.stamp, lv, d, (lsE F).take n, kind, body, r, sG, rfl, hr, wr, by omega, by rw [hlen]; exact ok, fun G' H' B wr' => k G' H' B ?_⟩
  rw [hlen] at wr'
  rw [take_snoc hl]
  exact wr'
theorem wr_unit {F : Fl} {n : Nat} {G H : Hp} {o dx lv d : Addr} {l : Lf} {r : V} {Q : VK} {E : XK} (fv : FV F) (sG : Same G H) (wr : WR K ((lsE F).take n) G H o dx F.stamp lv d) (hl : (lsE F)[n]? = some l) (hn : n ≤ 90) (hr : Rp G r (IntsD l.body)) (hs : l.stamp = F.stamp) (hnum : l.num = n)
    (k : ∀ G' H', Adv (fun q => q = lv ∨ q = d) G H G' H' → WR K ((lsE F).take (n + 1)) G' H' o dx F.stamp lv d → Q .non H') : sp_LeafWriter_add K [.ref o, .int l.kind, .int l.track, .int l.ord, .int l.time, .int l.span, .int l.key, r] H Q E := by
  have hi := (List.getElem?_eq_some_iff.mp hl).1
  have hlen : ((lsE F).take n).length = n := by rw [List.length_take]; omega
  have ok := lf_ok fv hl
  refine ⟨G, o, dx, F.stamp, lv, d, (lsE F).take n, l, r, sG, rfl, hr, wr, by omega, by rw [hlen]; exact hnum, hs, ok, fun G' H' B wr' => k G' H' B ?_⟩
  rw [take_snoc hl]
  exact wr'
def sp_written (K : PySem.W.Frag) : Sp := fun vs H Q _ => ∃ (G : Hp) (r0 r1 r2 r3 r4 : V) (tk sk s : Nat) (rows : List RowT) (nk : List (Str × Str)) (tags : List TagT) (tr : List (List Mv)) (ord es : List (Nat × Nat)), Same G H ∧ vs = [r0, r1, r2, .int s, r3, r4] ∧ Rp G r0 (HeadD tk sk rows) ∧ Rp G r1 (.list (tags.map TagD)) ∧ Rp G r2 (MvsD tr) ∧ Rp G r3 (.list (ord.map PairD)) ∧ Rp G r4 (.list (es.map PairD)) ∧
  nkOf rows = nk ∧ WIn tk sk s nk tags tr ∧ OrdOk tr ord ∧ (∀ e ∈ es, EntIn tr e) ∧
  ∀ G' H' o dx lv d F, Adv0 G H G' H' → FileIs tk sk nk tags tr F → WR K (lsE F) G' H' o dx s lv d → H d = none → Q (.ref o) H'
theorem sc_written : FnScope n_written p_written (defScope s_written) := ⟨rfl, rfl, rfl, by decide +kernel, rfl, by decide +kernel, by decide +kernel⟩
theorem ok_written (T : Facts K mg) : FnOk P w K mg base CX0 6 (fA K "written") (fD K "written") p_written (sp_written K) := by
  refine T.written.F.ok sc_written (fun vs H Q E h => ?_) (fun cdv A outer s H vs Q E hr h => ?_)
  · obtain ⟨G, r0, r1, r2, r3, r4, tk, sk, st, rows, nk, tags, tr, ord, es, _, rfl, _⟩ := h
    rfl
  · obtain ⟨G, r0, r1, r2, r3, r4, tk, sk, st, rows, nk, tags, tr, ord, es, sG, rfl, h0, h1, h2, h3, h4, hnk, W, O, he, q⟩ := h
    obtain ⟨a0, ra, xr, rfl, ha0, hra, hxr⟩ := h0.hdr
    obtain ⟨a1, x1, rfl, ha1, hx1⟩ := h1.list
    obtain ⟨a2, x2, rfl, ha2, hx2⟩ := h2.list
    obtain ⟨a3, x3, rfl, ha3, hx3⟩ := h3.list
    have l1 : x1.length = tags.length := by rw [hx1.len, List.length_map]
    have l2 : x2.length = tr.length := by rw [hx2.len, List.length_map]
    have l3 : x3.length = ord.length := by rw [hx3.len, List.length_map]
    have lnk := W.len
    have l4 := W.l4
    have lrw : rows.length = nk.length := by rw [← hnk, nkOf, List.length_map]
    have lr : xr.length = rows.length := by rw [hxr.len, List.length_map]
    have ltg := W.tagsL
    have lor := O.len
    have ltot := W.tot
    obtain ⟨F, hF⟩ : ∃ F, F = mkF tk sk st nk tags tr ord es := ⟨_, rfl⟩
    have fis : FileIs tk sk nk tags tr F := hF ▸ mkF_is W O he
    have est : F.stamp = st := by rw [hF]; rfl
    have etk := fis.etk
    have esk := fis.esk
    have erw := fis.erows
    have etg := fis.etags
    have eus : F.us = usF tr st (pre F).length ord := by rw [hF]; rfl
    have ees : F.es = fnd tr st es (pre F) ord := by rw [hF]; rfl
    have fv := fis.fv
    clear hF
    have hpl := pre_len F
    have hpl2 := pre_le F
    have lus : F.us.length = ord.length := by rw [eus, usF_len]
    have lE := lsE_len F
    have lI := lsI_len F
    have lU := lsU_len F
    subst est
    refine ⟨_, PSs.nox (pss_cons (ps_set (i := 6) sc_written.nd rfl (.inl rfl) (pe_make T.mk_LeafWriter (ok_LeafWriter_init T) (hr.mono (by decide)) (by rfl) T.g_LeafWriter T.LeafWriter_init.b .nil pass0 (pa_cons (pv 3) pa_nil)))
  (pss_cons (ps_asg (pv 0) (pg_tup rfl (pgs_cons (pg_name (i := 7) sc_written.nd rfl (.inl rfl)) (pgs_cons (pg_name (i := 8) sc_written.nd rfl (.inl rfl)) (pgs_cons (pg_name (i := 9) sc_written.nd rfl (.inr rfl)) pgs_nil)))))
  (pss_cons (ps_set (i := 9) sc_written.nd rfl (.inr rfl) (pe_lc (own := [("k", 10)]) rfl sc_written.nd (pi_range1 rfl T.z_range (pa_cons (pe_callB call_len_seq rfl T.z_len bi_len (pa_cons (pv 9) pa_nil)) pa_nil)) (blkOk_by (own := [("k", 10)]) (N := n_written) (sc := defScope s_written) (by decide +kernel)) (fun _ _ _ _ _ => (pg_name (i := 10) sc_written.nd rfl (.inl rfl))) (fun _ _ _ _ _ => pts_nil) (fun _ _ _ _ _ => (pe_tup (pa_cons (pe_ix (r := rIxT K) ix_tup (pe_ix (r := rIxL K) ix_list (pv 9) (pv 10) (fun _ _ => rfl)) pe_int (fun _ _ => rfl)) (pa_cons (pe_ix (r := rIxT K) ix_tup (pe_ix (r := rIxL K) ix_list (pv 9) (pv 10) (fun _ _ => rfl)) pe_int (fun _ _ => rfl)) (pa_cons (pe_callB (r := rLenQ K) call_len_seq rfl T.z_len bi_len (pa_cons (pe_ix (r := rIxL K) ix_list (pv 2) (pv 10) (fun _ _ => rfl)) pa_nil)) pa_nil)))))))
  (pss_cons (ps_expr (pe_meth (pv 6) T.cl_LeafWriter T.m_LeafWriter_add_plain (ok_LeafWriter_add_plain T) (hr.mono (by decide)) T.LeafWriter_add_plain.b .nil pass0 (pa_cons (pe_gi rfl T.g_HEAD) (pa_cons (pe_call (ok_head_of_rows T) (hr.mono (by decide)) (by rfl) T.head_of_rows.g T.head_of_rows.kp T.head_of_rows.b .nil pass0 (pa_cons (pv 7) (pa_cons (pv 8) (pa_cons (pv 9) pa_nil)))) pa_nil))))
  (pss_cons (ps_if (pt_cmpR op_gt (pe_callB call_len_seq rfl T.z_len bi_len (pa_cons (pv 1) pa_nil)) pe_int (nomark _))
    (pss_one (ps_expr (pe_meth (pv 6) T.cl_LeafWriter T.m_LeafWriter_add_plain (ok_LeafWriter_add_plain T) (hr.mono (by decide)) T.LeafWriter_add_plain.b .nil pass0 (pa_cons (pe_gi rfl T.g_TAGS) (pa_cons (pe_call (ok_tags_body T) (hr.mono (by decide)) (by rfl) T.tags_body.g T.tags_body.kp T.tags_body.b .nil pass0 (pa_cons (pv 1) pa_nil)) pa_nil)))))
    pss_nil)
  (pss_cons (ps_set (i := 11) sc_written.nd rfl (.inl rfl) (pe_lst pa_nil))
  (pss_cons (ps_for PassesOwn.never rfl (pi_list (pv 4)) (pg_tup rfl (pgs_cons (pg_name (i := 12) sc_written.nd rfl (.inl rfl)) (pgs_cons (pg_name (i := 13) sc_written.nd rfl (.inl rfl)) pgs_nil)))
    (pss_cons (ps_asg (pe_ix ix_list (pe_ix ix_list (pv 2) (pe_op op_sub (pv 12) pe_int) (fun _ _ => rfl)) (pv 13) (fun _ _ => rfl)) (pg_tup rfl (pgs_cons (pg_name (i := 14) sc_written.nd rfl (.inl rfl)) (pgs_cons (pg_name (i := 15) sc_written.nd rfl (.inl rfl)) (pgs_cons (pg_name (i := 16) sc_written.nd rfl (.inl rfl)) (pgs_cons (pg_name (i := 17) sc_written.nd rfl (.inl rfl)) pgs_nil))))))
  (pss_cons (ps_if (pt_cmpR (op_inD (hu65_of hr)) (pe_tup (pa_cons (pv 12) (pa_cons (pv 13) pa_nil))) (pv 5) (by rfl))
    (pss_one (ps_expr (pe_bm PySem.F.plainAttrs_list PySem.F.slot_list_append PySem.F.type_list_append mt_append (pv 11) (pa_cons (pe_tup (pa_cons (pv 12) (pa_cons (pv 14) (pa_cons (pe_callB call_len_seq rfl T.z_len bi_len (pa_cons (pe_fld (pv 6) rfl) pa_nil)) pa_nil)))) pa_nil))))
    pss_nil)
  (pss_one (ps_expr (pe_meth (pv 6) T.cl_LeafWriter T.m_LeafWriter_add (ok_LeafWriter_add T) (hr.mono (by decide)) T.LeafWriter_add.b .nil pass0 (pa_cons (pe_gi rfl T.g_UNIT) (pa_cons (pv 12) (pa_cons (pv 13) (pa_cons (pv 14) (pa_cons (pv 15) (pa_cons (pv 16) (pa_cons (pv 17) pa_nil)))))))))))))
  (pss_cons (ps_expr (pe_meth (pv 6) T.cl_LeafWriter T.m_LeafWriter_add_plain (ok_LeafWriter_add_plain T) (hr.mono (by decide)) T.LeafWriter_add_plain.b .nil pass0 (pa_cons (pe_gi rfl T.g_INDEX) (pa_cons (pe_call (ok_index_body T) (hr.mono (by decide)) (by rfl) T.index_body.g T.index_body.kp T.index_body.b .nil pass0 (pa_cons (pv 11) pa_nil)) pa_nil))))
  (pss_cons (ps_expr (pe_meth (pv 6) T.cl_LeafWriter T.m_LeafWriter_add_plain (ok_LeafWriter_add_plain T) (hr.mono (by decide)) T.LeafWriter_add_plain.b .nil pass0 (pa_cons (pe_gi rfl T.g_END) (pa_cons (pe_call (ok_end_body T) (hr.mono (by decide)) (by rfl) T.end_body.g T.end_body.kp T.end_body.b .nil pass0 (pa_cons (pe_op op_add (pe_callB call_len_seq rfl T.z_len bi_len (pa_cons (pe_fld (pv 6) rfl) pa_nil)) pe_int) (pa_cons (pe_call (ok_checksum T) (hr.mono (by decide)) (by rfl) T.checksum.g T.checksum.kp T.checksum.b .nil pass0 (pa_cons (pe_fld (pv 6) rfl) pa_nil)) pa_nil))) pa_nil))))
  (pss_one (ps_ret (pv 6)))))))))))), ?_⟩
    have A : Adv0 G H G H := .refl sG
    walk_at "sp"
    refine S_mk A fun o dx H1 A1 c1 fo mm => ?_
    clear mm
    refine ⟨G, o, dx, F.stamp, A1.gh, rfl, c1.g, c1.h, fun G2 H2 lv d B2 wr flv fd => ⟨rfl, ?_⟩⟩
    have A2 := c1.trans A1 B2
    replace flv := A1.fresh flv
    replace fd := A1.fresh fd
    have fr : ∀ x, x = lv ∨ x = d → No x ∨ H x = none := fun x h => .inr (h.elim (fun e => e ▸ flv) (fun e => e ▸ fd))
    walk_at "sp"
    refine S_rn1 (k := nk.length) (by rw [lr, lrw]) (by omega) (S_lcR (fun k => PyData.tuple [.str (nk.getD k ("", "")).1, .str (nk.getD k ("", "")).2, .int ((tr.getD k []).length : Nat)]) A2.gh (by omega) (fun i G3 H3 hi B3 Qy qy => ?_) (fun D G3 H3 acc B3 hD r => ?_))
    · have hi1 : nk[i]? = some (nk[i]'hi) := List.getElem?_eq_getElem hi
      generalize nk[i]'hi = x at hi1
      have hi2 : tr[i]? = some (tr[i]'(by omega)) := List.getElem?_eq_getElem (by omega)
      generalize tr[i]'(by omega) = ms at hi2
      obtain ⟨rw_, hr1, hr2, hr3⟩ := nk_get hnk hi1
      obtain ⟨v, hv, rv⟩ := hxr.get (get_map (f := RowD) hr1)
      obtain ⟨b, rfl, hb⟩ := rv.row
      obtain ⟨u, hu, ru⟩ := hx2.get (d := .list (ms.map MvD)) (by rw [List.getElem?_map, hi2]; rfl)
      obtain ⟨c, ys, rfl, hc, hy⟩ := ru.list
      have ly : ys.length = ms.length := by rw [hy.len, List.length_map]
      have g03 := A2.gg.trans B3.gg
      walk_at "sp"
      refine ⟨rfl, ?_⟩
      walk_at "sp"
      refine S_ixL (ql B3.gh (g03 _ _ hra)) (atI_n (Int.zero_add _) hv) ?_
      walk_at "sp"
      refine S_ixT (qt B3.gh (g03 _ _ hb)) rfl ?_
      walk_at "sp"
      refine S_ixL (ql B3.gh (g03 _ _ hra)) (atI_n (Int.zero_add _) hv) ?_
      walk_at "sp"
      refine S_ixT (qt B3.gh (g03 _ _ hb)) rfl ?_
      walk_at "sp"
      refine S_ixL (ql B3.gh (g03 _ _ ha2)) (atI_n (Int.zero_add _) hu) ?_
      walk_at "sp"
      refine S_lenL (ql B3.gh (g03 _ _ hc)) ?_
      walk_at "sp"
      refine ⟨line_le (by simp), S_newF (M := No) (G0 := G3) (H0 := H3) (.refl B3.gh) fun p4 G4 H4 A4 g4 hp4 _ => ?_⟩
      refine qy _ _ _ A4 ?_
      rw [List.getD_eq_getElem?_getD, List.getD_eq_getElem?_getD, hi1, hi2]
      refine .tup hp4 (.cons ?_ (.cons ?_ (.cons ?_ .nil)))
      · rw [hr2]
        exact .str _
      · rw [hr3]
        exact .str _
      · rw [ly]
        exact .int _
    rw [rows_range rfl lnk.symm] at r
    have hrn : Rp G3 (.ref D) (.list (F.rows.map RowD)) := by
      rw [erw]
      exact .lst hD r
    have A3 := A2.call B3
    have wr3 : WR K ((lsE F).take 0) G3 H3 o dx F.stamp lv d := wr.call B3
    have wtk := fv.tk
    have wsk := fv.sk
    have wrl := fv.rows
    have co3 : Cl (fun _ => True) H G3 H3 o _ := ⟨.inl trivial, wr3.go, wr3.ob⟩
    rw [← etk, ← esk]
    walk_at "sp"
    refine ⟨G3, F.tk, F.sk, .ref D, F.rows, A3.gh, rfl, by omega, by omega, hrn, by omega, fun x hx => (fv.row x hx).s, S_postI A3 fun p4 G4 H4 A4 B4 hp4 => ?_⟩
    have wr4 := wr3.call B4
    walk_at "sp"
    refine wr_plain fv A4.gh wr4 (kind := 0) (by rw [lsE_pre (by omega)]; exact pre_0 F) (by decide) (rp_ints hp4) fun G5 H5 B5 wr5 => ?_
    have A5 := A4.trans B5 fr
    clear co3
    have gRn : Rp G5 (.ref D) (.list (F.rows.map RowD)) := hrn.mono (B4.gg.trans B5.gg)
    refine S_seq (S_both (fun σ H6 => ∃ G6, σ = [some (.ref a0), some (.ref a1), some (.ref a2), some (.int F.stamp), some (.ref a3), some r4, some (.ref o), some (.int F.tk), some (.int F.sk), some (.ref D), none, none, none, none, none, none, none, none] ∧ Adv0 G H G6 H6 ∧ WR K ((lsE F).take (pre F).length) G6 H6 o dx F.stamp lv d) ?_ fun nx hnx => ?_)
    rotate_left
    · have co5 : Cl (fun _ => True) H G5 H5 o _ := ⟨.inl trivial, wr5.go, wr5.ob⟩
      by_cases ct : tags = []
      · rw [etg, if_pos ct] at hpl
        have ct' : x1.length = 0 := by rw [l1, ct]; rfl
        walk_at "sp"
        refine hnx _ _ ⟨G5, rfl, A5, ?_⟩
        rw [hpl]
        exact wr5
      · rw [etg, if_neg ct] at hpl
        have ct' : 0 < x1.length := by
          rw [l1]
          exact List.length_pos_iff.mpr ct
        walk_at "sp"
        refine ⟨G5, .ref a1, tags, A5.gh, rfl, h1.mono A5.gg, ltg, fun t ht => (W.tag t ht).s, S_postI A5 fun p6 G6 H6 A6 B6 hp6 => ?_⟩
        have wr6 := wr5.call B6
        walk_at "sp"
        refine wr_plain fv A6.gh wr6 (kind := 1) (by rw [lsE_pre (by omega), pre_1 (by rw [etg]; exact ct)]) (by decide) (by rw [etg]; exact rp_ints hp6) fun G7 H7 B7 wr7 => ?_
        refine hnx _ _ ⟨G7, rfl, A6.trans B7 fr, ?_⟩
        rw [hpl]
        exact wr7
    · rintro σ H6 ⟨G6, rfl, A6, wr6⟩
      walk_at "sp"
      refine ⟨Nat.zero_le _, S_newM (M := No) (G0 := G6) (H0 := H6) (.refl A6.gh) fun fo2 H7 B7 cf ff _ => ?_⟩
      have wr7 := wr6.call B7
      obtain ⟨nfo, nfl, nfd⟩ := wr6.nq ff
      have ff0 := A6.fresh ff
      have cf7 : Cl No H G6 H7 fo2 (.lst []) := ⟨.inr ff0, cf.g, cf.h⟩
      have A7 := A6.call B7
      walk_at "sp"
      refine S_forL (xs := x3) (fun i σ H8 => ∃ (x12 x13 x14 x15 x16 x17 : Option V) (G8 : Hp) (vs : List V), σ = [some (.ref a0), some (.ref a1), some (.ref a2), some (.int F.stamp), some (.ref a3), some r4, some (.ref o), some (.int F.tk), some (.int F.sk), some (.ref D), none, some (.ref fo2), x12, x13, x14, x15, x16, x17] ∧ Adv0 G H G8 H8 ∧ WR K ((lsE F).take ((pre F).length + i)) G8 H8 o dx F.stamp lv d ∧ Cl No H G8 H8 fo2 (.lst vs) ∧ RpL G8 vs ((fnd tr F.stamp es (pre F) (ord.take i)).map EntD))
        ⟨none, none, none, none, none, none, G6, [], rfl, A7, wr7, cf7, by simp [fnd]; exact .nil⟩ (fun i σ H8 _ ⟨_, _, _, _, _, _, _, _, _, A8, _⟩ => A8.l ha3) ?_ ?_
      · rintro i x σ H8 hxi ⟨x12, x13, x14, x15, x16, x17, G8, vs, rfl, A8, wr8, cf8, rl⟩
        obtain ⟨dd, hd, rx⟩ := hx3.getV hxi
        obtain ⟨e, hie, rfl⟩ := get_map_inv hd
        have hi := (List.getElem?_eq_some_iff.mp hie).1
        obtain ⟨k, ms, e1, hk, e2⟩ := O.mem e (List.mem_of_getElem? hie)
        have hm : ms[e.2]? = some (ms[e.2]'e2) := List.getElem?_eq_getElem e2
        generalize ms[e.2]'e2 = m at hm
        have em : mvAt tr e = m := by rw [← mvAt_eq hk hm, ← e1]
        have hu : F.us[i]? = some (uLf F.stamp ((pre F).length + i) m e) := by rw [eus, usF_get hie, em]
        obtain ⟨b, zs, rfl, hb, rz⟩ := rx.tuple
        rcases rz with _ | ⟨⟨⟩, _ | ⟨⟨⟩, _ | _⟩⟩
        obtain ⟨v, hv, rv⟩ := hx2.get (d := .list (ms.map MvD)) (by rw [List.getElem?_map, hk]; rfl)
        obtain ⟨c, ys, rfl, hc, hy⟩ := rv.list
        have hyex := hy.get (get_map (f := MvD) hm)
        have lvs := rl.len
        rw [List.length_map] at lvs
        have lfn := fnd_len (tr := tr) (s := F.stamp) (es := es) (r := ord.take i) (ls := pre F)
        rw [List.length_take] at lfn
        walk_at "sp"
        refine S_ixL (A8.l ha2) (atI_n (j := k) (by omega) hv) ?_
        walk_at "sp"
        obtain ⟨y, hy2, ry⟩ := hyex
        obtain ⟨g, bd, rfl, hg, hbd⟩ := ry.mv
        refine S_ixL (A8.l hc) (atI_nat hy2) ?_
        refine S_gtup (A8.t hg) rfl ?_
        repeat (with_reducible first | refine S_gcons ?_ | refine S_gnil ?_ | refine S_name ?_)
        have stp : usF tr F.stamp (pre F).length (ord.take i) = F.us.take i := by rw [eus, usF_take]
        have hdl : (lsE F).take ((pre F).length + i) = pre F ++ F.us.take i := by
          rw [lsE, List.take_append_of_le_length (by omega), lsI, List.take_append_of_le_length (by omega), lsU, List.take_append, List.take_of_length_le (by omega), Nat.add_sub_cancel_left]
        have hsn := fnd_snoc (tr := tr) (s := F.stamp) (es := es) (e := e) (r := ord.take i) (ls := pre F)
        rw [stp, ← hdl, em] at hsn
        have lfile := fileB_len wr8.ok
        rw [List.length_take] at lfile
        refine S_seq (S_both (fun σ H9 => ∃ G9 vs, σ = [some (.ref a0), some (.ref a1), some (.ref a2), some (.int F.stamp), some (.ref a3), some r4, some (.ref o), some (.int F.tk), some (.int F.sk), some (.ref D), none, some (.ref fo2), some (.int e.1), some (.int e.2), some (.int m.time), some (.int m.span), some (.int m.key), some (.ref bd)] ∧ Adv0 G H G9 H9 ∧ WR K ((lsE F).take ((pre F).length + i)) G9 H9 o dx F.stamp lv d ∧ Cl No H G9 H9 fo2 (.lst vs) ∧ RpL G9 vs ((fnd tr F.stamp es (pre F) (ord.take (i + 1))).map EntD)) ?_ fun nx hnx => ?_)
        rotate_left
        · walk_at "sp"
          refine ⟨line_le (by simp), S_newF (M := No) (G0 := G8) (H0 := H8) (.refl A8.gh) fun p9 G9 H9 B9 g9 hp9 _ => ?_⟩
          have A9 := A8.call B9
          have wr9 := wr8.call B9
          have cf9 := cf8.call B9
          have co9 : Cl (fun _ => True) H G9 H9 o _ := ⟨.inl trivial, wr9.go, wr9.ob⟩
          have cd9 : Cl (fun _ => True) H G9 H9 d _ := ⟨.inl trivial, wr9.dt.1, wr9.dt.2⟩
          walk_at "sp"
          refine ⟨PairD e, es.map PairD, (Rp.tup hp9 (.cons (.int _) (.cons (.int _) .nil))).dp A9.gh, (h4.mono A9.gg).dp A9.gh, (Shp.tup (n := 0) (shp_cons (.int _ _) (shp_cons (.int _ _) shp_nil))).shaped (by decide), (shp_pairs es).shaped (by decide), ?_⟩
          rw [in_pairs]
          by_cases ce : e ∈ es
          · rw [decide_eq_true ce]
            walk_at "sp"
            refine ⟨line_le (by simp), S_newF (M := No) (G0 := G9) (H0 := H9) (.refl A9.gh) fun p10 G10 H10 B10 g10 hp10 _ => ?_⟩
            have A10 := A9.call B10
            have wr10 := wr9.call B10
            have cf10 := cf9.call B10
            have AL : Adv (· = fo2) G10 H10 G10 H10 := .refl A10.gh
            have cL : Cl (· = fo2) H10 G10 H10 fo2 (.lst vs) := ⟨.inl rfl, cf10.g, cf10.h⟩
            walk_at "sp"
            refine S_app' AL cL (by omega) fun H11 B11 cf11 _ => ?_
            have A11 := A10.trans B11 fun q e => .inr (by subst e; exact ff0)
            have wr11 := wr10.mono B11 nfo.symm nfd.symm nfl.symm
            refine hnx _ _ ⟨G10, vs ++ [.ref p10], rfl, A11, wr11, ⟨.inr ff0, cf11.g, cf11.h⟩, ?_⟩
            rw [take_snoc hie, hsn, if_pos ce, List.map_append]
            refine (rl.mono (B9.gg.trans B10.gg)).snoc (.tup hp10 (.cons (.int _) (.cons (.int _) (.cons ?_ .nil))))
            rw [List.length_map]
            exact .int _
          · rw [decide_eq_false ce]
            walk_at "sp"
            refine hnx _ _ ⟨G9, vs, rfl, A9, wr9, cf9, ?_⟩
            rw [take_snoc hie, hsn, if_neg ce, List.append_nil]
            exact rl.mono B9.gg
        · rintro σ H9 ⟨G9, vs, rfl, A9, wr9, cf9, rl9⟩
          have co9 : Cl (fun _ => True) H G9 H9 o _ := ⟨.inl trivial, wr9.go, wr9.ob⟩
          walk_at "sp"
          refine wr_unit (l := uLf F.stamp ((pre F).length + i) m e) fv A9.gh wr9 (lsE_us hu) (by omega) (rp_ints (A9.gg _ _ hbd)) rfl rfl fun G10 H10 B10 wr10 => ?_
          refine ⟨_, _, _, _, _, _, G10, vs, rfl, A9.trans B10 fr, wr10, cf9.callM B10 (fun z => z.elim nfl nfd), rl9.mono B10.gg⟩
      · rintro σ H8 ⟨x12, x13, x14, x15, x16, x17, G8, vs, rfl, A8, wr8, cf8, rl⟩
        rw [l3] at wr8 rl
        rw [List.take_length, ← ees] at rl
        have co8 : Cl (fun _ => True) H G8 H8 o _ := ⟨.inl trivial, wr8.go, wr8.ob⟩
        have A9 := A8.still ff0 cf8.h cf8.g
        generalize hG9 : upd G8 fo2 (HO.lst vs) = G9 at A9
        have g89 : Same G8 G9 := by rw [← hG9]; exact same_new cf8.g
        have hf9 : Rp G9 (.ref fo2) (.list (F.es.map EntD)) := .lst (by rw [← hG9]; exact upd_same) (rl.mono g89)
        have wr9 : WR K ((lsE F).take ((pre F).length + ord.length)) G9 H8 o dx F.stamp lv d := by
          obtain ⟨gl, vs2, hl, rl2⟩ := wr8.lc
          rw [← hG9]
          exact ⟨wr8.ob, by rw [upd_ne nfo.symm]; exact wr8.go, ⟨by rw [upd_ne nfd.symm]; exact wr8.dt.1, wr8.dt.2⟩, ⟨by rw [upd_ne nfl.symm]; exact gl, vs2, hl, rl2.mono (same_new cf8.g)⟩, wr8.ne, wr8.ok⟩
        walk_at "sp"
        refine ⟨G9, .ref fo2, F.es, A9.gh, rfl, hf9, fv.esL, fun x hx => (ent_ok fv x hx).s, S_postI A9 fun p10 G10 H10 A10 B10 hp10 => ?_⟩
        have wr10 := wr9.call B10
        walk_at "sp"
        rw [← lus] at wr10
        refine wr_plain fv A10.gh wr10 (kind := 3) (by rw [lsE_I, lU]) (by omega) (rp_ints hp10) fun G11 H11 B11 wr11 => ?_
        have A11 := A10.trans B11 fr
        have co11 : Cl (fun _ => True) H G11 H11 o _ := ⟨.inl trivial, wr11.go, wr11.ob⟩
        have cd11 : Cl (fun _ => True) H G11 H11 d _ := ⟨.inl trivial, wr11.dt.1, wr11.dt.2⟩
        obtain ⟨gl, vl, hl, rll⟩ := wr11.lc
        have cl11 : Cl (fun _ => True) H G11 H11 lv _ := ⟨.inl trivial, gl, hl⟩
        have lvl := rll.len
        rw [List.length_map, List.length_take] at lvl
        have htI : (lsE F).take ((pre F).length + F.us.length + 1) = lsI F := by
          rw [lsE, List.take_append_of_le_length (by omega), List.take_of_length_le (by omega)]
        have AS := A11.still fd cd11.h cd11.g
        have lI' : ((lsI F).length : Int) = vl.length := by omega
        walk_at "sp"
        refine ⟨upd G11 d (HO.lst ((fileB ((lsE F).take ((pre F).length + F.us.length + 1))).map V.int)), .ref d, fileB ((lsE F).take ((pre F).length + F.us.length + 1)), AS.gh, rfl, rp_ints upd_same, fileB_bys wr11.ok, ?_⟩
        walk_at "sp"
        rw [htI]
        refine ⟨G11, (lsI F).length + 1, crc (fileB (lsI F)), A11.gh, by rw [show ((vl.length : Int) + 1) = (((lsI F).length + 1 : Nat) : Int) by omega]; rfl, by omega, S_postI A11 fun p12 G12 H12 A12 B12 hp12 => ?_⟩
        have wr12 := wr11.call B12
        walk_at "sp"
        refine wr_plain fv A12.gh wr12 (kind := 4) (by rw [lsE_E, show (lsI F).length = (pre F).length + F.us.length + 1 from lI]) (by omega) (rp_ints hp12) fun G13 H13 B13 wr13 => ?_
        walk_at "sp"
        rw [List.take_of_length_le (by omega)] at wr13
        exact q _ _ o dx lv d F (A12.trans B13 fr) fis wr13 fd
end
/-! w42 -/
section
variable {P : Program} {w : World} {K : PySem.W.Frag} {mg : Str → Option Value} {base : Heap}
def elScope : Expr → Scope
  | .ListComp _ _ s _ => s
  | _ => defScope (.Pass ⟨0, 0, 0, 0⟩)
def asgE : Stmt → Expr
  | .Assign _ e _ => e
  | _ => .Name "" ⟨0, 0, 0, 0⟩
/-- a value is the bytes of a file -/
def FileAt (G : Hp) (v : V) (tk sk : Nat) (nk : List (Str × Str)) (tags : List TagT) (tr : List (List Mv)) : Prop := ∃ F, FileIs tk sk nk tags tr F ∧ Rp G v (IntsD (fileB (lsE F)))
def keysOf (tr : List (List Mv)) : List (List Bool) := tr.map fun ms => ms.map fun m => decide (m.key = 1)
theorem keys_in {tr : List (List Mv)} {e : Nat × Nat} (h : IdxOk (keysOf tr) e) : EntIn tr e := by
  obtain ⟨k, bs, h1, h2, h3, h4⟩ := h
  obtain ⟨ms, hk, rfl⟩ := get_map_inv h2
  obtain ⟨m, hm, hb⟩ := get_map_inv h4
  exact ⟨⟨k, ms, m, h1, hk, h3, hm, of_decide_eq_true hb.symm⟩⟩
def sp_file_from : Sp := fun vs H Q _ => ∃ (G : Hp) (r0 r1 r2 : V) (tk sk s c : Nat) (rows : List RowT) (nk : List (Str × Str)) (tags : List TagT) (tr : List (List Mv)), Same G H ∧ vs = [r0, r1, r2, .int c, .int s] ∧ Rp G r0 (HeadD tk sk rows) ∧ Rp G r1 (.list (tags.map TagD)) ∧ Rp G r2 (MvsD tr) ∧
  nkOf rows = nk ∧ WIn tk sk s nk tags tr ∧ c ≤ 1000000 ∧ Post G H Q fun v G' => FileAt G' v tk sk nk tags tr
theorem sc_file_from : FnScope n_file_from p_file_from (defScope s_file_from) := ⟨rfl, rfl, rfl, by decide +kernel, rfl, by decide +kernel, by decide +kernel⟩
theorem ok_file_from (T : Facts K mg) : FnOk P w K mg base CX0 7 (fA K "file_from") (fD K "file_from") p_file_from sp_file_from := by
  refine T.file_from.F.ok sc_file_from (fun vs H Q E h => ?_) (fun cdv A outer s H vs Q E hr h => ?_)
  · obtain ⟨G, r0, r1, r2, tk, sk, st, c, rows, nk, tags, tr, _, rfl, _⟩ := h
    rfl
  · obtain ⟨G, r0, r1, r2, tk, sk, st, c, rows, nk, tags, tr, sG, rfl, h0, h1, h2, hnk, W, hc, q⟩ := h
    obtain ⟨a2, x2, rfl, ha2, hx2⟩ := h2.list
    have l2 : x2.length = tr.length := by rw [hx2.len, List.length_map]
    have l4 := W.l4
    have ltot := W.tot
    refine ⟨_, PSs.nox (pss_cons (ps_setLc (i := 5) (own := [("units", 7)]) rfl sc_file_from.nd rfl rfl (sw_true rfl rfl rfl (by decide +kernel)) (pi_list (pv 2)) (blkOk_by (own := [("units", 7)]) (N := n_file_from) (sc := defScope s_file_from) (by decide +kernel)) (fun _ _ _ _ _ => (pg_name (i := 7) sc_file_from.nd rfl (.inl rfl))) (fun _ _ _ _ _ => pts_nil) (fun _ _ _ _ _ => (pe_lc (own := [("unit", 6)]) rfl sc_file_from.nd (pi_listK (K := K) rfl (pv 7)) (blkOk_by (own := [("unit", 6)]) (N := n_file_from) (sc := elScope (asgE ((defBody s_file_from).getD 0 (.Pass ⟨0, 0, 0, 0⟩)))) (by decide +kernel)) (fun _ _ _ _ _ => (pg_name (i := 6) sc_file_from.nd rfl (.inl rfl))) (fun _ _ _ _ _ => pts_nil) (fun _ _ _ _ _ => (pe_cmpR op_eq (pe_ix (r := rIxT K) ix_tup (pv 6) pe_int (fun _ _ => rfl)) pe_int (nomark _))))))
  (pss_cons (ps_set (i := 8) sc_file_from.nd rfl (.inl rfl) (pe_ix ix_tup (pe_call (ok_best_index T) (hr.mono (by decide)) (by rfl) T.best_index.g T.best_index.kp T.best_index.b .nil pass0 (pa_cons (pv 5) (pa_cons (pv 3) pa_nil))) pe_int (fun _ _ => rfl)))
  (pss_one (ps_ret (pe_fld (pe_call (ok_written T) (hr.mono (by decide)) (by rfl) T.written.g T.written.kp T.written.b .nil pass0 (pa_cons (pv 0) (pa_cons (pv 1) (pa_cons (pv 2) (pa_cons (pv 4) (pa_cons (pe_call (ok_in_times T) (hr.mono (by decide)) (by rfl) T.in_times.g T.in_times.kp T.in_times.b .nil pass0 (pa_cons (pv 2) pa_nil)) (pa_cons (pv 8) pa_nil))))))) rfl))))), ?_⟩
    have A : Adv0 G H G H := .refl sG
    walk_at "sp"
    refine S_lcL (ds := tr.map fun ms => PyData.list (ms.map MvD)) (fun d => match d with | .list us => some (.list (us.map fun d => match d with | .tuple [_, _, .int k, _] => .bool (decide (k = 1)) | _ => .none)) | _ => none) sG ha2 hx2 (by simp; omega) (fun i x d G1 H1 hxi hd A1 rx Qy Qn qy _ => ?_) (fun D G1 H1 acc A1 hD r => ?_)
    · obtain ⟨ms, hms, rfl⟩ := get_map_inv hd
      have lms := len_le_flat (List.mem_of_getElem? hms)
      obtain ⟨b, ys, rfl, hb, hy⟩ := rx.list
      walk_at "sp"
      refine ⟨rfl, ?_⟩
      walk_at "sp"
      refine S_lcL (ds := ms.map MvD) (fun d => match d with | .tuple [_, _, .int k, _] => some (.bool (decide (k = 1))) | _ => none) A1.gh hb hy (by simp; omega) (fun j y d G2 H2 hyj hd A2 ry Qy2 Qn2 qy2 _ => ?_) (fun D2 G2 H2 acc A2 hD2 r => ?_)
      · obtain ⟨m, hm, rfl⟩ := get_map_inv hd
        obtain ⟨g, bd, rfl, hg, hbd⟩ := ry.mv
        walk_at "sp"
        refine ⟨rfl, ?_⟩
        walk_at "sp"
        exact qy2 _ rfl _ _ _ (.refl A2.gh) (.bl _)
      · refine qy _ rfl _ _ _ A2 (.lst hD2 ?_)
        rw [fm_map ms MvD _ (fun m => .bool (decide ((m.key : Int) = 1))) fun m _ => rfl] at r
        rw [List.map_map]
        exact r
    · have ek : (tr.map fun ms => PyData.list (ms.map MvD)).filterMap (fun d => match d with | .list us => some (.list (us.map fun d => match d with | .tuple [_, _, .int k, _] => .bool (decide (k = 1)) | _ => .none)) | _ => none) = (keysOf tr).map BlsD := by
        rw [fm_map tr _ _ (fun ms => BlsD (ms.map fun m => decide (m.key = 1))) fun ms _ => by
          show some (PyData.list ((ms.map MvD).map _)) = _
          rw [List.map_map]
          show some (PyData.list _) = some (PyData.list ((ms.map fun m => decide (m.key = 1)).map PyData.bool))
          rw [List.map_map]
          congr 2
          refine List.map_congr_left fun m _ => ?_
          show PyData.bool (decide ((m.key : Int) = 1)) = PyData.bool (decide (m.key = 1))
          congr 1
          exact decide_eq_decide.mpr (by omega)]
        rw [keysOf, List.map_map]
        rfl
      rw [ek] at r
      have hkeys : Rp G1 (.ref D) (.list ((keysOf tr).map BlsD)) := .lst hD r
      have lk : (keysOf tr).length = tr.length := List.length_map ..
      walk_at "sp"
      refine ⟨G1, .ref D, keysOf tr, c, A1.gh, rfl, hkeys, by omega, fun bs hbs => ?_, fun v2 G2 H2 B2 ⟨es, x, rv2, hes⟩ => ?_⟩
      · obtain ⟨ms, hms, rfl⟩ := List.mem_map.mp hbs
        have := len_le_flat hms
        rw [List.length_map]
        omega
      · have A2 := A1.call B2
        obtain ⟨t, zs, rfl, ht, rz⟩ := rv2.tuple
        rcases rz with _ | ⟨hz, _ | ⟨⟨⟩, _ | _⟩⟩
        obtain ⟨ea, ys, rfl, hea, hyy⟩ := hz.list
        walk_at "sp"
        refine ⟨G2, .ref a2, tr, A2.gh, rfl, h2.mono A2.gg, by omega, by omega, W.mok, fun v3 G3 H3 B3 ⟨ord, rv3, O⟩ => ?_⟩
        have A3 := A2.call B3
        walk_at "sp"
        refine ⟨G3, r0, r1, .ref a2, v3, .ref ea, tk, sk, st, rows, nk, tags, tr, ord, es, A3.gh, rfl, h0.mono A3.gg, h1.mono A3.gg, h2.mono A3.gg, rv3, (Rp.lst hea hyy).mono B3.gg, hnk, W, O, fun e he => keys_in (hes e he), fun G4 H4 o dx lv d F B4 fis wr fd => ?_⟩
        have A4 := A3.call B4
        have co4 : Cl (fun _ => True) H G4 H4 o _ := ⟨.inl trivial, wr.go, wr.ob⟩
        have A5 := A4.still (A3.fresh fd) wr.dt.2 wr.dt.1
        walk_at "sp"
        exact q _ _ _ A5 ⟨F, fis, rp_ints upd_same⟩
end
/-! w43 -/
section
variable {P : Program} {w : World} {K : PySem.W.Frag} {mg : Str → Option Value} {base : Heap}
theorem encB_ok {b : List Int} {u : Un} (h1 : u.content.length ≤ 200) (h2 : Bys u.content) (hb : b.length ≤ 1000) : (encB b u).length ≤ 1024 ∧ Bys (encB b u) := by
  unfold encB
  by_cases c : u.leans = true
  · rw [if_pos c]
    have h3 := ch_le b u.content
    have l1 := putS_le (n := chF b u.content) (by omega)
    have l2 := putS_le (n := chB b u.content) (by omega)
    refine ⟨?_, ((putS_bys _).app (putS_bys _)).app fun x hx => h2 x (List.mem_of_mem_drop (List.mem_of_mem_take hx))⟩
    rw [List.length_append, List.length_append, chM, List.length_take, List.length_drop]
    omega
  · rw [if_neg c]
    exact ⟨by omega, h2⟩
theorem encU_ok : ∀ {us : List Un} {l : Nat} {b : List Int}, UOk l us → b.length ≤ 1000 → MOk l (encU b us)
  | [], _, _, _, _ => True.intro
  | u :: us, l, b, h, hb => by
    obtain ⟨h1, h2, h3, h4, h5, h6, h7⟩ := h
    obtain ⟨k1, k2⟩ := encB_ok h5 h6 hb
    refine ⟨h1, h2, h3, h4, ?_, k1, k2, encU_ok h7 (by omega)⟩
    show (if u.leans = true then 0 else 1) ≤ 1
    split <;> omega
theorem encU_head {us : List Un} {b : List Int} (h : Hd0 us) (m : Mv) (hm : (encU b us)[0]? = some m) : m.key = 1 := by
  cases us with
  | nil => simp [encU] at hm
  | cons u us =>
    cases hm
    show (if u.leans = true then 0 else 1) = 1
    rw [h u rfl]
    rfl
def nkP (p : Pr) : List (Str × Str) := p.tracks.map fun t => (t.name, t.kind)
theorem nk_rows (p : Pr) : nkOf (rowsOf p) = nkP p := by rw [nkOf, rowsOf, List.map_map]; rfl
structure PrIn (p : Pr) : Prop where
  ok : PrOk p
  l4 : p.tracks.length ≤ 4
  tot : (mvsOf p).flatten.length ≤ 50
theorem pr_win {p : Pr} (h : PrIn p) {s : Nat} (hs : s ≤ 1000) : WIn p.ticks p.skip s (nkP p) p.tags (mvsOf p) := by
  have o := h.ok
  refine ⟨hs, o.ticks, o.skip, by rw [nkP, mvsOf, List.length_map, List.length_map], by rw [mvsOf, List.length_map]; exact h.l4, fun x hx => ?_, o.tagsL, o.tags, o.sort, fun ms hms => ?_, fun ms hms m hm => ?_, h.tot⟩
  · obtain ⟨t, ht, rfl⟩ := List.mem_map.mp hx
    have k := o.tracks t ht
    exact ⟨k.nameL, k.name, k.kind⟩
  · obtain ⟨t, ht, rfl⟩ := List.mem_map.mp hms
    exact encU_ok (o.tracks t ht).units (by simp)
  · obtain ⟨t, ht, rfl⟩ := List.mem_map.mp hms
    exact encU_head (o.tracks t ht).head m hm
def sp_write : Sp := fun vs H Q _ => ∃ (G : Hp) (r : V) (p : Pr) (s c : Nat), Same G H ∧ vs = [r, .int s, .int c] ∧ Rp G r (PrD p) ∧ PrIn p ∧ s ≤ 1000 ∧ c ≤ 100 ∧ Post G H Q fun v G' => FileAt G' v p.ticks p.skip (nkP p) p.tags (mvsOf p)
theorem sc_write : FnScope n_write p_write (defScope s_write) := ⟨rfl, rfl, rfl, by decide +kernel, rfl, by decide +kernel, by decide +kernel⟩
theorem ok_write (T : Facts K mg) : FnOk P w K mg base CX0 8 (fA K "write") (fD K "write") p_write sp_write := by
  refine T.write.F.ok sc_write (fun vs H Q E h => ?_) (fun cdv A outer s H vs Q E hr h => ?_)
  · obtain ⟨G, r, p, st, c, _, rfl, _⟩ := h
    rfl
  · obtain ⟨G, r, p, st, c, sG, rfl, hr0, pin, hs, hc, q⟩ := h
    have W := pr_win pin hs
    refine ⟨_, PSs.nox (pss_cons (ps_if (pt_not (pt_val (pe_call (ok_is_presentation T) (hr.mono (by decide)) (by rfl) T.is_presentation.g T.is_presentation.kp T.is_presentation.b .nil pass0 (pa_cons (pv 0) pa_nil))))
    pss_never
    pss_nil)
  (pss_cons (ps_if (PW.pt (pw_or (pt_cmpR op_lt (pv 1) pe_int (nomark _)) (pw_or1 (pt_cmpR op_gt (pv 1) (pe_gi rfl T.g_MOST_LEAVES) (nomark _)))))
    pss_never
    pss_nil)
  (pss_cons (ps_if (PW.pt (pw_or (pt_cmpR op_lt (pv 2) pe_int (nomark _)) (pw_or1 (pt_cmpR op_gt (pv 2) (pe_gi rfl T.g_MOST_ENTRIES) (nomark _)))))
    pss_never
    pss_nil)
  (pss_cons (ps_asg (pe_call (ok_with_bodies T) (hr.mono (by decide)) (by rfl) T.with_bodies.g T.with_bodies.kp T.with_bodies.b .nil pass0 (pa_cons (pv 0) pa_nil)) (pg_tup rfl (pgs_cons (pg_name (i := 3) sc_write.nd rfl (.inl rfl)) (pgs_cons (pg_name (i := 4) sc_write.nd rfl (.inl rfl)) pgs_nil))))
  (pss_one (ps_ret (pe_call (ok_file_from T) (hr.mono (by decide)) (by rfl) T.file_from.g T.file_from.kp T.file_from.b .nil pass0 (pa_cons (pv 3) (pa_cons (pe_ix ix_tup (pv 0) pe_int (fun _ _ => rfl)) (pa_cons (pv 4) (pa_cons (pv 2) (pa_cons (pv 1) pa_nil)))))))))))), ?_⟩
    have A : Adv0 G H G H := .refl sG
    walk_at "sp"
    refine ⟨G, r, p, sG, rfl, hr0, pin.ok, fun v1 G1 H1 B1 e1 => ?_⟩
    subst e1
    have A1 := A.call B1
    walk_at "sp"
    refine ⟨G1, r, p, A1.gh, rfl, hr0.mono A1.gg, pin.ok, fun v2 G2 H2 B2 rv2 => ?_⟩
    have A2 := A1.call B2
    obtain ⟨a, xs, rfl, ha, rl⟩ := rv2.tuple
    rcases rl with _ | ⟨rh, _ | ⟨rm, _ | _⟩⟩
    obtain ⟨b, t, g, rfl, hb, ht, hg⟩ := hr0.pr
    walk_at "sp"
    refine ⟨G2, _, g, _, p.ticks, p.skip, st, c, rowsOf p, nkP p, p.tags, mvsOf p, A2.gh, rfl, rh, hg.mono A2.gg, rm, nk_rows p, W, by omega, fun v3 G3 H3 B3 hf => ?_⟩
    exact q _ _ _ (A2.call B3) hf
end
/-! w44 -/
section
variable {P : Program} {w : World} {K : PySem.W.Frag} {mg : Str → Option Value} {base : Heap}
/-! ### tags joined -/
section
open PySem.W
theorem TSort.all : ∀ {ts : List TagT}, TSort ts → ts.Pairwise fun s t => s.1.cps.toList < t.1.cps.toList
  | [], _ => .nil
  | [_], _ => List.pairwise_singleton _ _
  | a :: b :: r, h => by
    have ih := TSort.all (ts := b :: r) fun k s t h1 h2 => h (k + 1) s t h1 h2
    have hab := h 0 a b rfl rfl
    refine .cons (fun x hx => ?_) ih
    rcases List.mem_cons.mp hx with rfl | hx
    · exact hab
    · exact List.lt_trans hab ((List.pairwise_cons.mp ih).1 x hx)
theorem tsort_of {ts : List TagT} (h : ts.Pairwise fun s t => s.1.cps.toList < t.1.cps.toList) : TSort ts := fun k s t h1 h2 => by
  obtain ⟨i1, e1⟩ := List.getElem?_eq_some_iff.mp h1
  obtain ⟨i2, e2⟩ := List.getElem?_eq_some_iff.mp h2
  rw [← e1, ← e2]
  exact List.pairwise_iff_getElem.mp h _ _ i1 i2 (Nat.lt_succ_self _)
theorem tag_lt {a b : TagT} (h : dataLe false TagD a b = true) (n : a.1 ≠ b.1) : a.1.cps.toList < b.1.cps.toList := by
  have h' : (!dataLt (TagD b) (TagD a)) = true := h
  rw [dataLt_pair (by simp [alike]) (by simp [alike]), if_neg, dataLt_str] at h'
  · have h2 : ¬ b.1.cps.toList < a.1.cps.toList := fun z => by
      rw [decide_eq_true z] at h'
      cases h'
    refine Decidable.byContradiction fun h3 => n ?_
    have h4 := List.le_antisymm (List.not_lt.mp h2) (List.not_lt.mp h3)
    have h5 : a.1.cps = b.1.cps := Array.toList_inj.mp h4
    cases ha : a.1 with
    | mk x => cases hb : b.1 with
      | mk y =>
        rw [ha, hb] at h5
        exact congrArg Str.mk h5
  · intro z
    simp only [PyData.eqv, beq_iff_eq] at z
    exact n z.symm
def joinT (a b : List TagT) : List TagT := (a ++ b.filter fun t => decide (t.1 ∉ a.map (·.1))).mergeSort (dataLe false TagD)
theorem joinT_sort {a b : List TagT} (ha : TSort a) (hb : TSort b) : TSort (joinT a b) := by
  have tot : TotalLe (dataLe false TagD) := sortLe_total _ _ _
  have p1 := sort_pairwise tot (a ++ b.filter fun t => decide (t.1 ∉ a.map (·.1)))
  have pm := List.mergeSort_perm (a ++ b.filter fun t => decide (t.1 ∉ a.map (·.1))) (dataLe false TagD)
  have ne : ∀ {ts : List TagT}, TSort ts → ts.Pairwise fun s t => s.1 ≠ t.1 := fun h => h.all.imp fun h z => by
    rw [z] at h
    exact List.lt_irrefl _ h
  have p2 : (a ++ b.filter fun t => decide (t.1 ∉ a.map (·.1))).Pairwise fun s t => s.1 ≠ t.1 := by
    rw [List.pairwise_append]
    refine ⟨ne ha, (ne hb).filter _, fun x hx y hy z => ?_⟩
    have := of_decide_eq_true (List.mem_filter.mp hy).2
    exact this (z ▸ List.mem_map.mpr ⟨x, hx, rfl⟩)
  have p3 := (pm.pairwise_iff (fun {x y} (h : x.1 ≠ y.1) => h.symm)).mpr p2
  exact tsort_of (p1.imp₂ (fun x y h1 h2 => tag_lt h1 h2) p3)
theorem joinT_mem {a b : List TagT} {t : TagT} (h : t ∈ joinT a b) : t ∈ a ∨ t ∈ b := by
  have pm := List.mergeSort_perm (a ++ b.filter fun t => decide (t.1 ∉ a.map (·.1))) (dataLe false TagD)
  rcases List.mem_append.mp (pm.mem_iff.mp h) with h | h
  · exact .inl h
  · exact .inr (List.mem_filter.mp h).1
theorem joinT_len (a b : List TagT) : (joinT a b).length ≤ a.length + b.length := by
  rw [joinT, List.length_mergeSort, List.length_append]
  have := List.length_filter_le (fun t : TagT => decide (t.1 ∉ a.map (·.1))) b
  omega
end
theorem flat_strs (xs : List Str) : (xs.map V.str).all flatV = true := by
  rw [List.all_map, List.all_eq_true]
  intro x _
  rfl
theorem in_strs {z : Str} {xs : List Str} : (if true = true then !inV (.str z) (xs.map V.str) else inV (.str z) (xs.map V.str)) = !decide (z ∈ xs) := by
  rw [if_pos rfl]
  congr 1
  unfold inV
  rw [List.any_map, Bool.eq_iff_iff, List.any_eq_true, decide_eq_true_eq]
  refine ⟨fun ⟨x, hx, h⟩ => ?_, fun h => ⟨z, h, by simp [eqV]⟩⟩
  have h' : x = z := by simpa [eqV] using h
  exact h' ▸ hx
def jtF (ks : List Str) : PyData → Option PyData
  | .tuple [.str k, v] => if k ∈ ks then none else some (.tuple [.str k, v])
  | _ => none
theorem jtF_tag (ks : List Str) (t : TagT) : jtF ks (TagD t) = if t.1 ∈ ks then none else some (TagD t) := rfl
theorem jt_flt {ks : List Str} {tb : List TagT} : (tb.map TagD).filterMap (jtF ks) = (tb.filter fun t => decide (t.1 ∉ ks)).map TagD := by
  induction tb with
  | nil => rfl
  | cons t tb ih =>
    rw [List.map_cons, List.filterMap_cons, List.filter_cons, jtF_tag]
    by_cases c : t.1 ∈ ks
    · rw [if_pos c, if_neg (by intro z; exact (of_decide_eq_true z) c)]
      exact ih
    · rw [if_neg c, if_pos (decide_eq_true c), List.map_cons, ← ih]
def sp_joined_tags : Sp := fun vs H Q _ => ∃ (G : Hp) (r1 r2 : V) (a b : List TagT), Same G H ∧ vs = [r1, r2] ∧ Rp G r1 (.list (a.map TagD)) ∧ Rp G r2 (.list (b.map TagD)) ∧ a.length + b.length ≤ 10 ∧ (∀ t ∈ a, TagOk t) ∧ (∀ t ∈ b, TagOk t) ∧ TSort a ∧ TSort b ∧ Post G H Q fun v G' => Rp G' v (.list ((joinT a b).map TagD))
theorem sc_joined_tags : FnScope n_joined_tags p_joined_tags (defScope s_joined_tags) := ⟨rfl, rfl, rfl, by decide +kernel, rfl, by decide +kernel, by decide +kernel⟩
theorem ok_joined_tags (T : Facts K mg) : FnOk P w K mg base CX0 4 (fA K "joined_tags") (fD K "joined_tags") p_joined_tags sp_joined_tags := by
  refine T.joined_tags.F.ok sc_joined_tags (fun vs H Q E h => ?_) (fun cdv A outer s H vs Q E hr h => ?_)
  · obtain ⟨G, r1, r2, a, b, _, rfl, _⟩ := h
    rfl
  · obtain ⟨G, r1, r2, ta, tb, sG, rfl, h1, h2, hl, oka, okb, sa, sb, q⟩ := h
    obtain ⟨a1, x1, rfl, ha1, hx1⟩ := h1.list
    obtain ⟨a2, x2, rfl, ha2, hx2⟩ := h2.list
    have l1 : x1.length = ta.length := by rw [hx1.len, List.length_map]
    have l2 : x2.length = tb.length := by rw [hx2.len, List.length_map]
    refine ⟨_, PSs.nox (pss_cons (ps_set (i := 2) sc_joined_tags.nd rfl (.inr rfl) (pe_lc (own := [("key", 3), ("_", 4)]) rfl sc_joined_tags.nd (pi_list (pv 0)) (blkOk_by (own := [("key", 3), ("_", 4)]) (N := n_joined_tags) (sc := defScope s_joined_tags) (by decide +kernel)) (fun _ _ _ _ _ => (pg_tupK (K := K) (n := 2) rfl rfl (pgs_cons (pg_name (i := 3) sc_joined_tags.nd rfl (.inl rfl)) (pgs_cons (pg_name (i := 4) sc_joined_tags.nd rfl (.inl rfl)) pgs_nil)))) (fun _ _ _ _ _ => pts_nil) (fun _ _ _ _ _ => (pv 3))))
  (pss_cons (ps_set (i := 5) sc_joined_tags.nd rfl (.inl rfl) (pe_callB (cr_sortedD hr.units) rfl T.z_sorted bi_sorted (pa_cons (pe_op op_cat (pv 0) (pe_lc (own := [("key", 3), ("value", 6)]) rfl sc_joined_tags.nd (pi_list (pv 1)) (blkOk_by (own := [("key", 3), ("value", 6)]) (N := n_joined_tags) (sc := defScope s_joined_tags) (by decide +kernel)) (fun _ _ _ _ _ => (pg_tupK (K := K) (n := 2) rfl rfl (pgs_cons (pg_name (i := 3) sc_joined_tags.nd rfl (.inl rfl)) (pgs_cons (pg_name (i := 6) sc_joined_tags.nd rfl (.inl rfl)) pgs_nil)))) (fun _ _ _ _ _ => (pts_one (pt_cmpR (r := rIn K true) op_notIn_seq (pv 3) (pv 2) (by rfl)))) (fun _ _ _ _ _ => (pe_tup (pa_cons (pv 3) (pa_cons (pv 6) pa_nil)))))) pa_nil)))
  (pss_cons (ps_if (PW.pt (pw_and (pt_cmpR op_gt (pe_callB call_len_seq rfl T.z_len bi_len (pa_cons (pv 5) pa_nil)) pe_int (nomark _)) (pw_and1 (pt_cmpR op_gt (pe_callB call_len_seq rfl T.z_len bi_len (pa_cons (pe_call (ok_tags_body T) (hr.mono (by decide)) (by rfl) T.tags_body.g T.tags_body.kp T.tags_body.b .nil pass0 (pa_cons (pv 5) pa_nil)) pa_nil)) (pe_gi rfl T.g_MOST_BODY_joining) (nomark _)))))
    pss_never
    pss_nil)
  (pss_one (ps_ret (pv 5)))))), ?_⟩
    have A : Adv0 G H G H := .refl sG
    walk_at "sp"
    refine S_lcL (ds := ta.map TagD) (fun d => match d with | .tuple [k, _] => some k | _ => none) sG ha1 hx1 (by simp; omega) (fun i x d G1 H1 hxi hd A1 rx Qy Qn qy _ => ?_) (fun D G1 H1 acc A1 hD r => ?_)
    · obtain ⟨t, ht, rfl⟩ := get_map_inv hd
      obtain ⟨b, rfl, hb⟩ := rx.tag
      refine S_gtup (qt A1.gh hb) rfl ?_
      walk_at "sp"
      refine ⟨rfl, ?_⟩
      walk_at "sp"
      exact qy _ rfl _ _ _ (.refl A1.gh) (.str _)
    · rw [fm_map ta TagD _ (fun t => .str t.1) fun t _ => rfl] at r
      have eacc : acc = (ta.map (·.1)).map V.str := RpL.strs_inv (G := G1) (by rw [List.map_map]; exact r)
      subst eacc
      walk_at "sp"
      refine S_lcL (ds := tb.map TagD) (jtF (ta.map (·.1))) A1.gh (A1.gg _ _ ha2) (hx2.mono A1.gg) (by simp; omega) (fun i x d G2 H2 hxi hd A2 rx Qy Qn qy qn => ?_) (fun D2 G2 H2 acc2 A2 hD2 r2 => ?_)
      · obtain ⟨t, ht, rfl⟩ := get_map_inv hd
        obtain ⟨b, rfl, hb⟩ := rx.tag
        refine S_gtup (qt A2.gh hb) rfl ?_
        walk_at "sp"
        refine ⟨rfl, ?_⟩
        walk_at "sp"
        refine ⟨D, _, rfl, .inl (A2.l hD), rfl, flat_strs _, ?_⟩
        rw [in_strs]
        by_cases c : t.1 ∈ ta.map (·.1)
        · rw [decide_eq_true c]
          walk_at "sp"
          exact qn (by rw [jtF_tag, if_pos c]) _ _ (.refl A2.gh)
        · rw [decide_eq_false c]
          walk_at "sp"
          refine ⟨line_le (by simp), S_newF (M := No) (G0 := G2) (H0 := H2) (.refl A2.gh) fun p3 G3 H3 A3 g3 hp3 _ => ?_⟩
          exact qy _ (by rw [jtF_tag, if_neg c]) _ _ _ A3 (.tup hp3 (.cons (.str _) (.cons (.str _) .nil)))
      · rw [jt_flt] at r2
        have A2' := A1.call A2
        have lac := r2.len
        rw [List.length_map] at lac
        have lfl := List.length_filter_le (fun t : TagT => decide (t.1 ∉ ta.map (·.1))) tb
        have lj := joinT_len ta tb
        walk_at "sp"
        refine S_cat (xs := x1) (A2'.at (A2'.gg _ _ ha1)) (A2'.at hD2) (by omega) (S_newF A2' fun p3 G3 H3 A3 g3 hp3 _ => ?_)
        have hcat : RpL G3 (x1 ++ acc2) ((ta ++ tb.filter fun t => decide (t.1 ∉ ta.map (·.1))).map TagD) := by
          rw [List.map_append]
          exact (hx1.mono (A2'.gg.trans g3)).app (r2.mono g3)
        walk_at "sp"
        refine ⟨TagT, TagD, G3, p3, _, ta ++ tb.filter fun t => decide (t.1 ∉ ta.map (·.1)), rfl, ql A3.gh hp3, A3.gh, hcat, fun b => ⟨_, _, rfl⟩, fun _ _ => by simp [PySem.W.alike, PySem.W.alikeAll], fun b => by simp [PyData.depth, PyData.depthAll], fun ys rys => S_newF A3 fun p4 G4 H4 A4 g4 hp4 _ => ?_⟩
        have hj : Rp G4 (.ref p4) (.list ((joinT ta tb).map TagD)) := .lst hp4 (rys.mono g4)
        have lys := rys.len
        rw [List.length_map] at lys
        change ys.length = (joinT ta tb).length at lys
        by_cases c : joinT ta tb = []
        · have c' : ys.length = 0 := by rw [lys, c]; rfl
          walk_at "sp"
          exact q _ _ _ A4 hj
        · have c' : 0 < ys.length := by
            rw [lys]
            exact List.length_pos_iff.mpr c
          have hok : ∀ t ∈ joinT ta tb, TagOk t := fun t ht => (joinT_mem ht).elim (oka t) (okb t)
          have lg := gB_len (fun t ht => (hok t ht).s) (tags := joinT ta tb) (by omega)
          walk_at "sp"
          refine ⟨G4, .ref p4, joinT ta tb, A4.gh, rfl, hj, by omega, fun t ht => (hok t ht).s, S_postI A4 fun p5 G5 H5 A5 B5 hp5 => ?_⟩
          walk_at "sp"
          exact q _ _ _ A5 (hj.mono B5.gg)
end
/-! w45 -/
section
variable {P : Program} {w : World} {K : PySem.W.Frag} {mg : Str → Option Value} {base : Heap}
/-! ### joining -/
def shM (e : Nat) (m : Mv) : Mv := ⟨m.time + e, m.span, m.key, m.body⟩
def joinM (e : Nat) (a b : List (List Mv)) : List (List Mv) := List.zipWith (fun x y => x ++ y.map (shM e)) a b
def endM (tr : List (List Mv)) : Nat := maxN (tr.flatten.map fun m => m.time + m.span)
theorem maxN_congr {a b : List Nat} (h : ∀ n, n ∈ a ↔ n ∈ b) : maxN a = maxN b := by
  have k : ∀ {a b : List Nat}, (∀ n, n ∈ a → n ∈ b) → maxN a ≤ maxN b := fun {a b} h => by
    rcases List.mem_append.mp (maxN_mem a) with h1 | h1
    · exact maxN_ge (h _ h1)
    · rw [List.mem_singleton.mp h1]
      exact Nat.zero_le _
  exact Nat.le_antisymm (k fun n => (h n).mp) (k fun n => (h n).mpr)
def lls (F : Fl) : List (List Lf) := (List.range F.rows.length).map fun k => trk (k + 1) F.us
section
variable {tk sk : Nat} {nk : List (Str × Str)} {tags : List TagT} {tr : List (List Mv)} {F : Fl}
theorem FileIs.rl (f : FileIs tk sk nk tags tr F) : F.rows.length = tr.length := by
  obtain ⟨s, W⟩ := f.win
  rw [f.erows, rowsN_len W]
theorem FileIs.lls (f : FileIs tk sk nk tags tr F) : (lls F).map (fun t => t.map lMv) = tr := by
  refine List.ext_getElem? fun k => ?_
  have hl := f.rl
  rw [Sp.lls, List.map_map, List.getElem?_map]
  by_cases c : k < tr.length
  · have h : tr[k]? = some tr[k] := List.getElem?_eq_getElem c
    rw [List.getElem?_range (by omega), h]
    exact congrArg some (f.trs k _ h)
  · rw [List.getElem?_eq_none (by rw [List.length_range]; omega), List.getElem?_eq_none (by omega)]
    rfl
theorem FileIs.us_mem (f : FileIs tk sk nk tags tr F) {l : Lf} (h : l ∈ F.us) : ∃ k ms, l.track = k + 1 ∧ tr[k]? = some ms ∧ lMv l ∈ ms ∧ l.ord < ms.length := by
  obtain ⟨i, hi⟩ := List.mem_iff_getElem?.mp h
  have u := f.fv.un i l hi
  have hl := f.rl
  have t0 := u.t0
  have t1 := u.t1
  have hk : tr[l.track - 1]? = some (tr[l.track - 1]'(by omega)) := List.getElem?_eq_getElem (by omega)
  generalize tr[l.track - 1]'(by omega) = ms at hk
  have ht := f.trs _ _ hk
  rw [show l.track - 1 + 1 = l.track by omega] at ht
  refine ⟨l.track - 1, ms, by omega, hk, ?_, ?_⟩
  · rw [← ht]
    exact List.mem_map.mpr ⟨l, List.mem_filter.mpr ⟨h, decide_eq_true rfl⟩, rfl⟩
  · rw [u.ord, ← ht, List.length_map]
    have : (trk l.track F.us) = trk l.track (F.us.take i) ++ trk l.track (F.us.drop i) := by
      conv => lhs; rw [← List.take_append_drop i F.us]
      exact List.filter_append ..
    rw [this, drop_cons hi]
    unfold trk
    rw [List.filter_cons, if_pos (decide_eq_true rfl), List.length_append, List.length_cons]
    omega
theorem FileIs.end_ (f : FileIs tk sk nk tags tr F) : maxN (F.us.map fun l => l.time + l.span) = endM tr := by
  refine maxN_congr fun n => ⟨fun h => ?_, fun h => ?_⟩
  · obtain ⟨l, hl, rfl⟩ := List.mem_map.mp h
    obtain ⟨k, ms, _, h2, h3, _⟩ := f.us_mem hl
    exact List.mem_map.mpr ⟨lMv l, List.mem_flatten.mpr ⟨ms, List.mem_of_getElem? h2, h3⟩, rfl⟩
  · obtain ⟨m, hm, rfl⟩ := List.mem_map.mp h
    obtain ⟨ms, h1, h2⟩ := List.mem_flatten.mp hm
    obtain ⟨k, hk⟩ := List.mem_iff_getElem?.mp h1
    rw [← f.trs k ms hk] at h2
    obtain ⟨l, hl, rfl⟩ := List.mem_map.mp h2
    exact List.mem_map.mpr ⟨l, (List.mem_filter.mp hl).1, rfl⟩
theorem nk_rowsN : ∀ {nk : List (Str × Str)} {tr : List (List Mv)}, nk.length = tr.length → nkOf (rowsN nk tr) = nk
  | [], [], _ => rfl
  | x :: nk, t :: tr, h => by
    have ih := nk_rowsN (nk := nk) (tr := tr) (by simpa using h)
    rw [rowsN, List.zipWith_cons_cons, nkOf, List.map_cons]
    exact congrArg (x :: ·) ih
theorem FileIs.nkE (f : FileIs tk sk nk tags tr F) : nkOf F.rows = nk := by
  obtain ⟨s, W⟩ := f.win
  rw [f.erows, nk_rowsN W.len]
end
theorem MOk.shift {e : Nat} : ∀ {y : List Mv} {l : Nat}, MOk l y → (∀ m ∈ y, m.time + e < 1099511627776) → MOk (l + e) (y.map (shM e))
  | [], _, _, _ => True.intro
  | m :: y, l, o, h => by
    obtain ⟨o1, o2, o3, o4, o5, o6, o7, o8⟩ := o
    have ih := MOk.shift o8 fun x hx => h x (List.mem_cons_of_mem _ hx)
    refine ⟨by show l + e ≤ m.time + e; omega, h m List.mem_cons_self, o3, o4, o5, o6, o7, ?_⟩
    show MOk (m.time + e + m.span) _
    rw [show m.time + e + m.span = m.time + m.span + e by omega]
    exact ih
theorem MOk.mono {l l' : Nat} (h : l' ≤ l) : ∀ {y : List Mv}, MOk l y → MOk l' y
  | [], _ => True.intro
  | m :: y, ⟨o1, o2⟩ => ⟨by omega, o2⟩
theorem MOk.app {e : Nat} {y : List Mv} (hy : MOk e y) : ∀ {x : List Mv} {l : Nat}, MOk l x → l ≤ e → (∀ m ∈ x, m.time + m.span ≤ e) → MOk l (x ++ y)
  | [], l, _, hl, _ => hy.mono hl
  | m :: x, l, ⟨o1, o2, o3, o4, o5, o6, o7, o8⟩, hl, h => ⟨o1, o2, o3, o4, o5, o6, o7, MOk.app hy o8 (h m List.mem_cons_self) fun n hn => h n (List.mem_cons_of_mem _ hn)⟩
theorem joinM_get {e : Nat} {a b : List (List Mv)} {i : Nat} {x y : List Mv} (h1 : a[i]? = some x) (h2 : b[i]? = some y) : (joinM e a b)[i]? = some (x ++ y.map (shM e)) := by
  rw [joinM, List.getElem?_zipWith, h1, h2]
theorem joinM_mem {e : Nat} {a b : List (List Mv)} {z : List Mv} (h : z ∈ joinM e a b) : ∃ x y, x ∈ a ∧ y ∈ b ∧ z = x ++ y.map (shM e) := by
  obtain ⟨i, hi⟩ := List.mem_iff_getElem?.mp h
  rw [joinM, List.getElem?_zipWith_eq_some] at hi
  obtain ⟨x, y, h1, h2, h3⟩ := hi
  exact ⟨x, y, List.mem_of_getElem? h1, List.mem_of_getElem? h2, h3.symm⟩
theorem joinM_tot {e : Nat} : ∀ {a b : List (List Mv)}, (joinM e a b).flatten.length ≤ a.flatten.length + b.flatten.length
  | [], _ => by simp [joinM]
  | _ :: _, [] => by simp [joinM]
  | x :: a, y :: b => by
    have ih := joinM_tot (e := e) (a := a) (b := b)
    rw [joinM] at ih ⊢
    rw [List.zipWith_cons_cons, List.flatten_cons, List.flatten_cons, List.flatten_cons, List.length_append, List.length_append, List.length_append, List.length_append, List.length_map]
    omega
theorem end_le {tr : List (List Mv)} {x : List Mv} (hx : x ∈ tr) {m : Mv} (hm : m ∈ x) : m.time + m.span ≤ endM tr := maxN_ge (List.mem_map.mpr ⟨m, List.mem_flatten.mpr ⟨x, hx, hm⟩, rfl⟩)
theorem join_win {tk sk s1 s2 sk2 s : Nat} {nk : List (Str × Str)} {g1 g2 : List TagT} {a b : List (List Mv)} (W1 : WIn tk sk s1 nk g1 a) (W2 : WIn tk sk2 s2 nk g2 b) (hs : s ≤ 1000) (hg : g1.length + g2.length ≤ 10) (ht : a.flatten.length + b.flatten.length ≤ 50)
    (hb : ∀ y ∈ b, ∀ m ∈ y, m.time + endM a < 1099511627776) : WIn tk sk s nk (joinT g1 g2) (joinM (endM a) a b) := by
  have l1 := W1.len
  have l2 := W2.len
  have l4 := W1.l4
  have lj := joinT_len g1 g2
  have jt := joinM_tot (e := endM a) (a := a) (b := b)
  have ljm : (joinM (endM a) a b).length = a.length := by rw [joinM, List.length_zipWith]; omega
  refine ⟨hs, W1.tk, W1.sk, by omega, by omega, W1.nk, by omega, fun t ht => (joinT_mem ht).elim (W1.tag t) (W2.tag t), joinT_sort W1.sort W2.sort, fun ms hms => ?_, fun ms hms m hm => ?_, by omega⟩
  · obtain ⟨x, y, hx, hy, rfl⟩ := joinM_mem hms
    have o2 := MOk.shift (e := endM a) (W2.mok y hy) (hb y hy)
    rw [Nat.zero_add] at o2
    exact MOk.app o2 (W1.mok x hx) (Nat.zero_le _) fun m hm => end_le hx hm
  · obtain ⟨x, y, hx, hy, rfl⟩ := joinM_mem hms
    cases x with
    | nil =>
      rw [List.nil_append, List.getElem?_map] at hm
      obtain ⟨n, h1, rfl⟩ := Option.map_eq_some_iff.mp hm
      exact W2.key y hy n h1
    | cons n x => exact W1.key (n :: x) hx m hm
theorem S_st {t : TS} {D : L2.Ends} {σ σ' : L2.St} {H : Hp} (e : σ = σ') (h : t D σ' H) : t D σ H := e ▸ h
def mvF (e : Int) : PyData → Option PyData
  | .tuple [_, _, _, _, _, .int t, .int sp, .int k, b] => some (.tuple [.int (t + e), .int sp, .int k, b])
  | _ => none
theorem mvF_lf {e : Int} {l : Lf} {n : Nat} (h : (l.time : Int) + e = n) : mvF e (LfD l) = some (MvD ⟨n, l.span, l.key, l.body⟩) := by
  show some (PyData.tuple [.int ((l.time : Int) + e), _, _, _]) = _
  rw [h]
theorem Rp.ck {G : Hp} {v : V} {F : Fl} (h : Rp G v (CkD F)) : ∃ a b c d e, v = .ref a ∧ G a = some (.tup [b, c, d, e]) ∧ Rp G b (HeadD F.tk F.sk F.rows) ∧ Rp G c (.list (F.tags.map TagD)) ∧ Rp G d (.list (F.us.map LfD)) := by
  obtain ⟨a, zs, rfl, ha, rz⟩ := h.tuple
  rcases rz with _ | ⟨h1, _ | ⟨h2, _ | ⟨h3, _ | ⟨h4, _ | _⟩⟩⟩⟩
  exact ⟨a, _, _, _, _, rfl, ha, h1, h2, h3⟩
def sp_join : Sp := fun vs H Q _ => ∃ (G : Hp) (r1 r2 : V) (tk sk s c : Nat) (nk : List (Str × Str)) (g1 g2 : List TagT) (t1 t2 : List (List Mv)), Same G H ∧ vs = [r1, r2, .int c, .int s] ∧ FileAt G r1 tk sk nk g1 t1 ∧ FileAt G r2 tk 0 nk g2 t2 ∧ s ≤ 1000 ∧ c ≤ 1000 ∧
  g1.length + g2.length ≤ 10 ∧ t1.flatten.length + t2.flatten.length ≤ 50 ∧ (∀ y ∈ t2, ∀ m ∈ y, m.time + endM t1 < 1099511627776) ∧ Post G H Q fun v G' => FileAt G' v tk sk nk (joinT g1 g2) (joinM (endM t1) t1 t2)
theorem sc_join : FnScope n_join p_join (defScope s_join) := ⟨rfl, rfl, rfl, by decide +kernel, rfl, by decide +kernel, by decide +kernel⟩
theorem ok_join (T : Facts K mg) : FnOk P w K mg base CX0 10 (fA K "join") (fD K "join") p_join sp_join := by
  refine T.join.F.ok sc_join (fun vs H Q E h => ?_) (fun cdv A outer s H vs Q E hr h => ?_)
  · obtain ⟨G, r1, r2, tk, sk, st, c, nk, g1, g2, t1, t2, _, rfl, _⟩ := h
    rfl
  · obtain ⟨G, r1, r2, tk, sk, st, c, nk, g1, g2, t1, t2, sG, rfl, ⟨F1, f1, hr1⟩, ⟨F2, f2, hr2⟩, hs, hc, hg, ht, hb, q⟩ := h
    obtain ⟨s1, W1⟩ := f1.win
    obtain ⟨s2, W2⟩ := f2.win
    have W := join_win W1 W2 hs hg ht hb
    have rl1 := f1.rl
    have rl2 := f2.rl
    have n1 := f1.nkE
    have n2 := f2.nkE
    have w1 := W1.len
    have w2 := W2.len
    have w4 := W1.l4
    have us1 := f1.fv.usL
    have us2 := f2.fv.usL
    refine ⟨_, PSs.nox (pss_cons (ps_asg (pe_call (ok_checked_leaves T) (hr.mono (by decide)) (by rfl) T.checked_leaves.g T.checked_leaves.kp T.checked_leaves.b .nil pass0 (pa_cons (pv 0) pa_nil)) (pg_tup rfl (pgs_cons (pg_name (i := 4) sc_join.nd rfl (.inl rfl)) (pgs_cons (pg_name (i := 5) sc_join.nd rfl (.inl rfl)) (pgs_cons (pg_name (i := 6) sc_join.nd rfl (.inl rfl)) (pgs_cons (pg_name (i := 7) sc_join.nd rfl (.inl rfl)) pgs_nil))))))
  (pss_cons (ps_asg (pe_call (ok_checked_leaves T) (hr.mono (by decide)) (by rfl) T.checked_leaves.g T.checked_leaves.kp T.checked_leaves.b .nil pass0 (pa_cons (pv 1) pa_nil)) (pg_tup rfl (pgs_cons (pg_name (i := 8) sc_join.nd rfl (.inl rfl)) (pgs_cons (pg_name (i := 9) sc_join.nd rfl (.inl rfl)) (pgs_cons (pg_name (i := 10) sc_join.nd rfl (.inl rfl)) (pgs_cons (pg_name (i := 7) sc_join.nd rfl (.inl rfl)) pgs_nil))))))
  (pss_cons (ps_expr (pe_call (ok_check_alike T) (hr.mono (by decide)) (by rfl) T.check_alike.g T.check_alike.kp T.check_alike.b .nil pass0 (pa_cons (pv 4) (pa_cons (pv 8) pa_nil))))
  (pss_cons (ps_set (i := 11) sc_join.nd rfl (.inr rfl) (pe_call (ok_end_of_units T) (hr.mono (by decide)) (by rfl) T.end_of_units.g T.end_of_units.kp T.end_of_units.b .nil pass0 (pa_cons (pv 6) pa_nil)))
  (pss_cons (ps_set (i := 12) sc_join.nd rfl (.inl rfl) (pe_call (ok_by_track T) (hr.mono (by decide)) (by rfl) T.by_track.g T.by_track.kp T.by_track.b .nil pass0 (pa_cons (pv 4) (pa_cons (pv 6) pa_nil))))
  (pss_cons (ps_expr (pe_call (ok_check_length T) (hr.mono (by decide)) (by rfl) T.check_length.g T.check_length.kp T.check_length.b .nil pass0 (pa_cons (pv 12) (pa_cons (pv 10) (pa_cons (pv 11) pa_nil)))))
  (pss_cons (ps_set (i := 5) sc_join.nd rfl (.inl rfl) (pe_call (ok_joined_tags T) (hr.mono (by decide)) (by rfl) T.joined_tags.g T.joined_tags.kp T.joined_tags.b .nil pass0 (pa_cons (pv 5) (pa_cons (pv 9) pa_nil))))
  (pss_cons (ps_set (i := 13) sc_join.nd rfl (.inl rfl) (pe_call (ok_by_track T) (hr.mono (by decide)) (by rfl) T.by_track.g T.by_track.kp T.by_track.b .nil pass0 (pa_cons (pv 8) (pa_cons (pv 10) pa_nil))))
  (pss_cons (ps_set (i := 14) sc_join.nd rfl (.inl rfl) (pe_lst pa_nil))
  (pss_cons (ps_for PassesOwn.never rfl (pi_range1 rfl T.z_range (pa_cons (pe_callB call_len_seq rfl T.z_len bi_len (pa_cons (pv 12) pa_nil)) pa_nil)) (pg_name (i := 15) sc_join.nd rfl (.inl rfl))
    (pss_one (ps_expr (pe_bm PySem.F.plainAttrs_list PySem.F.slot_list_append PySem.F.type_list_append mt_append (pv 14) (pa_cons (pe_op op_cat (pe_lc (own := [("leaf", 16)]) rfl sc_join.nd (pi_list (pe_ix ix_list (pv 12) (pv 15) (fun _ _ => rfl))) (blkOk_by (own := [("leaf", 16)]) (N := n_join) (sc := defScope s_join) (by decide +kernel)) (fun _ _ _ _ _ => (pg_name (i := 16) sc_join.nd rfl (.inl rfl))) (fun _ _ _ _ _ => pts_nil) (fun _ _ _ _ _ => (pe_call (ok_moved T) (hr.mono (by decide)) (by rfl) T.moved.g T.moved.kp T.moved.b .nil pass0 (pa_cons (pv 16) (pa_cons pe_int pa_nil))))) (pe_lc (own := [("leaf", 16)]) rfl sc_join.nd (pi_list (pe_ix ix_list (pv 13) (pv 15) (fun _ _ => rfl))) (blkOk_by (own := [("leaf", 16)]) (N := n_join) (sc := defScope s_join) (by decide +kernel)) (fun _ _ _ _ _ => (pg_name (i := 16) sc_join.nd rfl (.inl rfl))) (fun _ _ _ _ _ => pts_nil) (fun _ _ _ _ _ => (pe_call (ok_moved T) (hr.mono (by decide)) (by rfl) T.moved.g T.moved.kp T.moved.b .nil pass0 (pa_cons (pv 16) (pa_cons (pv 11) pa_nil)))))) pa_nil)))))
  (pss_one (ps_ret (pe_call (ok_file_from T) (hr.mono (by decide)) (by rfl) T.file_from.g T.file_from.kp T.file_from.b .nil pass0 (pa_cons (pv 4) (pa_cons (pv 5) (pa_cons (pv 14) (pa_cons (pv 2) (pa_cons (pv 3) pa_nil)))))))))))))))))), ?_⟩
    have A : Adv0 G H G H := .refl sG
    walk_at "sp"
    refine ⟨F1, G, r1, sG, rfl, hr1, f1.fv, fun v1 G1 H1 B1 rv1 => ?_⟩
    have A1 := A.call B1
    obtain ⟨a1, d1, d2, d3, d4, rfl, ha1, rh1, rt1, ru1⟩ := rv1.ck
    refine S_gtup (qt A1.gh ha1) rfl ?_
    repeat (with_reducible first | refine S_gcons ?_ | refine S_gnil ?_ | refine S_name ?_)
    refine S_st (σ' := [some r1, some r2, some (.int c), some (.int st), some d1, some d2, some d3, some d4, none, none, none, none, none, none, none, none, none]) rfl ?_
    walk_at "sp"
    refine ⟨F2, G1, r2, A1.gh, rfl, hr2.mono A1.gg, f2.fv, fun v2 G2 H2 B2 rv2 => ?_⟩
    have A2 := A1.call B2
    obtain ⟨a2, e1, e2, e3, e4, rfl, ha2, rh2, rt2, ru2⟩ := rv2.ck
    replace rh1 := rh1.mono B2.gg
    replace rt1 := rt1.mono B2.gg
    replace ru1 := ru1.mono B2.gg
    rw [f1.etk, f1.esk] at rh1
    rw [f2.etk, f2.esk] at rh2
    rw [f1.etags] at rt1
    rw [f2.etags] at rt2
    refine S_gtup (qt A2.gh ha2) rfl ?_
    repeat (with_reducible first | refine S_gcons ?_ | refine S_gnil ?_ | refine S_name ?_)
    refine S_st (σ' := [some r1, some r2, some (.int c), some (.int st), some d1, some d2, some d3, some e4, some e1, some e2, some e3, none, none, none, none, none, none]) rfl ?_
    walk_at "sp"
    refine ⟨G2, _, _, tk, sk, F1.rows, F2.rows, A2.gh, rfl, rh1, rh2, by omega, by omega, fun k x y hx hy => ?_, fun G3 H3 B3 => ?_⟩
    · have e1 : (nkOf F1.rows)[k]? = (nkOf F2.rows)[k]? := by rw [n1, n2]
      rw [nkOf, nkOf, List.getElem?_map, List.getElem?_map, hx, hy] at e1
      have e2 : (x.1, x.2.1) = (y.1, y.2.1) := Option.some.inj e1
      have hy2 := f2.fv.row y (List.mem_of_getElem? hy)
      exact ⟨(Prod.mk.inj e2).1, (Prod.mk.inj e2).2, hy2.name, hy2.kind.line⟩
    have A3 := A2.call B3
    walk_at "sp"
    refine ⟨G3, _, F1.us, A3.gh, rfl, ru1.mono B3.gg, by omega, fun v4 G4 H4 B4 e4 => ?_⟩
    subst e4
    rw [f1.end_]
    have A4 := A3.call B4
    walk_at "sp"
    have g24 := B3.gg.trans B4.gg
    refine ⟨G4, _, _, tk, sk, F1.rows, F1.us, A4.gh, rfl, rh1.mono g24, ru1.mono g24, by omega, by omega, fun l hl => ?_, fun v5 G5 H5 B5 rv5 => ?_⟩
    · obtain ⟨i, hi⟩ := List.mem_iff_getElem?.mp hl
      have u := f1.fv.un i l hi
      exact ⟨u.t0, u.t1⟩
    have A5 := A4.call B5
    have g25 := g24.trans B5.gg
    have rv5' : Rp G5 v5 (LlD (lls F1)) := by
      have e : trkD F1.rows.length F1.us = LlD (lls F1) := by rw [lls, LlD, List.map_map]; rfl
      rw [← e]
      exact rv5
    have lll1 : (lls F1).length = t1.length := by rw [lls, List.length_map, List.length_range, rl1]
    have lll2 : (lls F2).length = t2.length := by rw [lls, List.length_map, List.length_range, rl2]
    have llm : ∀ {F : Fl} {t : List Lf}, F.us.length ≤ 50 → t ∈ lls F → t.length ≤ 50 := fun {F t} h ht => by
      obtain ⟨k, _, rfl⟩ := List.mem_map.mp ht
      have := List.length_filter_le (fun l : Lf => decide (l.track = k + 1)) F.us
      unfold trk
      omega
    walk_at "sp"
    refine ⟨G5, _, _, lls F1, F2.us, endM t1, A5.gh, rfl, rv5', ru2.mono g25, by omega, fun t ht => by have := llm us1 ht; omega, fun l hl => ?_, ?_⟩
    · obtain ⟨k, ms, h1, h2, h3, h4⟩ := f2.us_mem hl
      have hk := (List.getElem?_eq_some_iff.mp h2).1
      have hm := List.mem_of_getElem? h2
      have := len_le_flat hm
      exact ⟨by omega, by omega, hb ms hm _ h3, by omega⟩
    walk_at "sp"
    refine ⟨G5, _, _, g1, g2, A5.gh, rfl, rt1.mono g25, rt2.mono g25, hg, W1.tag, W2.tag, W1.sort, W2.sort, fun v6 G6 H6 B6 rv6 => ?_⟩
    have A6 := A5.call B6
    have g26 := g25.trans B6.gg
    walk_at "sp"
    refine ⟨G6, _, _, tk, 0, F2.rows, F2.us, A6.gh, rfl, rh2.mono g26, ru2.mono g26, by omega, by omega, fun l hl => ?_, fun v7 G7 H7 B7 rv7 => ?_⟩
    · obtain ⟨i, hi⟩ := List.mem_iff_getElem?.mp hl
      have u := f2.fv.un i l hi
      exact ⟨u.t0, u.t1⟩
    have A7 := A6.call B7
    have g27 := g26.trans B7.gg
    have rv7' : Rp G7 v7 (LlD (lls F2)) := by
      have e : trkD F2.rows.length F2.us = LlD (lls F2) := by rw [lls, LlD, List.map_map]; rfl
      rw [← e]
      exact rv7
    replace rv5' := rv5'.mono (B6.gg.trans B7.gg)
    obtain ⟨b1, y1, rfl, hb1, hy1⟩ := rv5'.list
    obtain ⟨b2, y2, rfl, hb2, hy2⟩ := rv7'.list
    have ly1 : y1.length = t1.length := by rw [hy1.len, List.length_map, lll1]
    have ljm : (joinM (endM t1) t1 t2).length = t1.length := by rw [joinM, List.length_zipWith]; omega
    walk_at "sp"
    refine ⟨Nat.zero_le _, S_newM (M := No) (G0 := G) (H0 := H) A7 fun o H8 A8 co fo _ => ?_⟩
    walk_at "sp"
    refine S_rn1 (k := t1.length) (by rw [ly1]) (by omega) (S_forR (fun i σ H9 => ∃ (x15 x16 : Option V) (G9 : Hp) (vs : List V), σ = [some r1, some r2, some (.int c), some (.int st), some d1, some v6, some d3, some e4, some e1, some e2, some e3, some (.int (endM t1)), some (.ref b1), some (.ref b2), some (.ref o), x15, x16] ∧ Adv0 G H G9 H9 ∧ Same G7 G9 ∧ Cl No H G9 H9 o (.lst vs) ∧ RpL G9 vs (((joinM (endM t1) t1 t2).take i).map fun t => .list (t.map MvD)))
      ⟨none, none, G7, [], rfl, A8, .refl _, co, .nil⟩ ?_ ?_)
    · rintro i σ H9 hi ⟨x15, x16, G9, vs, rfl, A9, g79, co9, rl⟩
      have hl1 : (lls F1)[i]? = some ((lls F1)[i]'(by omega)) := List.getElem?_eq_getElem (by omega)
      have hl2 : (lls F2)[i]? = some ((lls F2)[i]'(by omega)) := List.getElem?_eq_getElem (by omega)
      generalize (lls F1)[i]'(by omega) = la at hl1
      generalize (lls F2)[i]'(by omega) = lb at hl2
      have hm1 : t1[i]? = some (la.map lMv) := by rw [← f1.lls, List.getElem?_map, hl1]; rfl
      have hm2 : t2[i]? = some (lb.map lMv) := by rw [← f2.lls, List.getElem?_map, hl2]; rfl
      have hjm := joinM_get (e := endM t1) hm1 hm2
      have lla := llm us1 (List.mem_of_getElem? hl1)
      have llb := llm us2 (List.mem_of_getElem? hl2)
      obtain ⟨u1, hu1, ru1⟩ := hy1.get (d := .list (la.map LfD)) (by rw [List.getElem?_map, hl1]; rfl)
      obtain ⟨u2, hu2, ru2⟩ := hy2.get (d := .list (lb.map LfD)) (by rw [List.getElem?_map, hl2]; rfl)
      obtain ⟨c1, z1, rfl, hc1, hz1⟩ := ru1.list
      obtain ⟨c2, z2, rfl, hc2, hz2⟩ := ru2.list
      have lvs := rl.len
      rw [List.length_map, List.length_take] at lvs
      have hc1' := g79 _ _ hc1
      walk_at "sp"
      refine S_ixL (ql A9.gh (g79 _ _ hb1)) (atI_n (Int.zero_add _) hu1) ?_
      walk_at "sp"
      refine S_lcL (ds := la.map LfD) (mvF 0) A9.gh hc1' (hz1.mono g79) (by simp; omega) (fun j x d G10 H10 hxj hd A10 rx Qy Qn qy _ => ?_) (fun D1 G10 H10 acc1 A10 hD1 r1' => ?_)
      · obtain ⟨l, hl, rfl⟩ := get_map_inv hd
        walk_at "sp"
        refine ⟨rfl, ?_⟩
        walk_at "sp"
        exact ⟨G10, x, l, 0, l.time, A10.gh, rfl, rx, by omega, fun v G11 H11 B11 rv => qy _ (mvF_lf (n := l.time) (by omega)) _ _ _ B11 rv⟩
      rw [fm_map la LfD _ (fun l => MvD (lMv l)) fun l _ => mvF_lf (n := l.time) (by omega)] at r1'
      have A10' := A9.call A10
      have co10 := co9.call A10
      have hc2' := A10.gg _ _ (g79 _ _ hc2)
      walk_at "sp"
      refine S_ixL (ql A10'.gh (A10.gg _ _ (g79 _ _ hb2))) (atI_n (Int.zero_add _) hu2) ?_
      walk_at "sp"
      refine S_lcL (ds := lb.map LfD) (mvF (endM t1)) A10'.gh hc2' (hz2.mono (g79.trans A10.gg)) (by simp; omega) (fun j x d G11 H11 hxj hd A11 rx Qy Qn qy _ => ?_) (fun D2 G11 H11 acc2 A11 hD2 r2' => ?_)
      · obtain ⟨l, hl, rfl⟩ := get_map_inv hd
        walk_at "sp"
        refine ⟨rfl, ?_⟩
        walk_at "sp"
        exact ⟨G11, x, l, endM t1, l.time + endM t1, A11.gh, rfl, rx, by omega, fun v G12 H12 B12 rv => qy _ (mvF_lf (n := l.time + endM t1) (by omega)) _ _ _ B12 rv⟩
      rw [fm_map lb LfD _ (fun l => MvD (shM (endM t1) (lMv l))) fun l _ => mvF_lf (n := l.time + endM t1) (by omega)] at r2'
      have A11' := A10'.call A11
      have co11 := co10.call A11
      have k1 := r1'.len
      have k2 := r2'.len
      rw [List.length_map] at k1 k2
      walk_at "sp"
      refine S_cat (xs := acc1) (ys := acc2) (A11'.at (A11.gg _ _ hD1)) (A11'.at hD2) (by omega) (S_newF A11' fun p12 G12 H12 A12 g12 hp12 mm => ?_)
      have co12 := mm _ _ co11
      clear mm
      walk_at "sp"
      refine S_app' A12 co12 (by omega) fun H13 A13 co13 _ => ?_
      refine ⟨_, _, G12, _, rfl, A13, g79.trans (A10.gg.trans (A11.gg.trans g12)), co13, ?_⟩
      rw [take_snoc hjm, List.map_append]
      refine (rl.mono (A10.gg.trans (A11.gg.trans g12))).snoc (.lst hp12 ?_)
      rw [List.map_append, List.map_map, List.map_map, List.map_map]
      exact (r1'.mono (A11.gg.trans g12)).app (r2'.mono g12)
    · rintro σ H9 ⟨x15, x16, G9, vs, rfl, A9, g79, co9, rl⟩
      rw [← ljm, List.take_length] at rl
      have A10 := A9.still fo co9.h co9.g
      have g910 := same_new (u := HO.lst vs) co9.g
      have gA := (g27.trans g79).trans g910
      walk_at "sp"
      refine ⟨upd G9 o (.lst vs), _, _, _, tk, sk, st, c, F1.rows, nk, joinT g1 g2, joinM (endM t1) t1 t2, A10.gh, rfl, rh1.mono gA, rv6.mono (B7.gg.trans (g79.trans g910)), .lst upd_same (rl.mono g910), n1, W, by omega, fun v11 G11 H11 B11 hf => ?_⟩
      exact q _ _ _ (A10.call B11) hf
end
/-! w46 -/
/-! ### comprehensions of typed items, and of two clauses -/
section
variable {K : PySem.W.Frag} {G H : Hp} {σ : L2.St} {g : TG} {tt : TT} {te : TE} {vs : List Nat} {Q : VK}
theorem S_lcA {α : Type} {a : Addr} {xs : List V} {as : List α} (enc : α → PyData) (f : α → PyData) (sG : Same G H) (ha : G a = some (.lst xs)) (hr : RpL G xs (as.map enc)) (hn : as.length ≤ 100000)
    (hs : ∀ (i : Nat) (x : V) (e : α) (G1 H1 : Hp), xs[i]? = some x → as[i]? = some e → Adv0 G H G1 H1 → Rp G1 x (enc e) → ∀ (Qy : VK), (∀ y G2 H2, Adv0 G1 H1 G2 H2 → Rp G2 y (f e) → Qy y H2) →
      g x (wipe σ vs) H1 fun σ2 H2 => wipe σ2 vs = wipe σ vs ∧ te σ2 H2 Qy)
    (q : PostL G H Q (as.map f)) : LcR g tYes te vs σ (Itl K a) H Q := fun D hD => by
  have a0 : Adv0 G H G H := .refl sG
  have ln : xs.length = as.length := by rw [hr.len, List.length_map]
  refine lc_list (xs := xs) (Qd := Q (.ref D)) (fun i H1 => ∃ G1 acc, Adv0 G H G1 H1 ∧ Mt H G1 H1 D (.lst acc) ∧ RpL G1 acc ((as.take i).map f))
    ⟨G, [], a0.new hD, .mk_new a0 hD, .nil⟩ (fun i H1 _ ⟨G1, acc, A, _, _⟩ => A.l ha) (fun i x H1 hx ⟨G1, acc, A, m, r⟩ => ?_) (fun H1 ⟨G1, acc, A, m, r⟩ => ?_)
  · obtain ⟨d, hd, rx⟩ := hr.getV hx
    obtain ⟨e, he, rfl⟩ := get_map_inv hd
    refine hs i x e G1 H1 hx he A (rx.mono A.gg) _ fun y G2 H2 A2 ry => ?_
    have m2 := m.call A2
    have la := r.len
    rw [List.length_map, List.length_take] at la
    refine ⟨acc, m2.h, line_lt (by omega), G2, acc ++ [y], m2.wrA (A.call A2), m2.wr, ?_⟩
    rw [take_snoc he, List.map_append]
    exact (r.mono A2.gg).snoc ry
  · have ht : as.take xs.length = as := List.take_of_length_le (by omega)
    rw [ht] at r
    exact q D _ H1 acc (A.still m.f m.h m.g) upd_same (r.mono (same_new m.g))
def Lc2R (g : TG) (tt : TT) (wi1 : TI) (g1 : TG) (tt1 : TT) (te : TE) (vs vs1 : List Nat) (σ : L2.St) (J : It) (H : Hp) (Q : VK) : Prop := ∀ D, H D = none → ∃ W : Nat → Nat → Hp → Prop, (∃ m, W 0 m (upd H D (.lst []))) ∧ ∀ i m H, W i m H →
  (J.stop i H ∧ Q (.ref D) H) ∨ (J.go i H ∧ ∃ Nx : Hp → Prop, (∀ H', Nx H' → ∃ m', m' < m ∧ W (i + 1) m' H') ∧ ∀ x H', J.yld i H x H' → g x (wipe σ vs) H' fun σ2 H2 => wipe σ2 vs = wipe σ vs ∧ tt σ2 H2 fun b H3 =>
    if b = true then wi1 σ2 H3 fun J1 H4 => ∃ W1 : Nat → Nat → Hp → Prop, (∃ m, W1 0 m H4) ∧ ∀ j k H, W1 j k H →
      (J1.stop j H ∧ Nx H) ∨ (J1.go j H ∧ ∃ Nx1 : Hp → Prop, (∀ H', Nx1 H' → ∃ k', k' < k ∧ W1 (j + 1) k' H') ∧ ∀ x H', J1.yld j H x H' → g1 x (wipe σ2 vs1) H' fun σ3 H5 => wipe σ3 vs1 = wipe σ2 vs1 ∧ tt1 σ3 H5 fun b H6 =>
        if b = true then te σ3 H6 fun y H7 => ∃ acc, H7 D = some (.lst acc) ∧ acc.length < sizeLine ∧ Nx1 (upd H7 D (.lst (acc ++ [y]))) else Nx1 H6)
    else Nx H3)
theorem S_lc2 {wi wi1 : TI} {g1 : TG} {tt1 : TT} {vs1 : List Nat} (h : wi σ H fun J H1 => Lc2R g tt wi1 g1 tt1 te vs vs1 σ J H1 Q) : tLc2 wi g tt wi1 g1 tt1 te vs vs1 σ H Q := h
/-- ints of the items of the items of a list -/
theorem S_lc2I {α β : Type} {wi1 : TI} {g1 : TG} {vs1 : List Nat} {a : Addr} {xs : List V} {as : List α} (enc : α → PyData) (inn : α → List β) (encb : β → PyData) (f : β → Int) (sG : Same G H) (ha : G a = some (.lst xs)) (hr : RpL G xs (as.map enc)) (hn : (as.flatMap inn).length ≤ 100000)
    (σ0 : L2.St) (e0 : wipe σ vs = σ0)
    (hs : ∀ (x : V) (e : α) (G1 H1 : Hp), e ∈ as → Adv0 G H G1 H1 → Rp G1 x (enc e) → ∀ R : L2.St → It → Hp → Prop,
      (∀ (σ2 σ1 : L2.St) (_ : wipe σ2 vs1 = σ1) (b : Addr) (ys : List V), G1 b = some (.lst ys) → RpL G1 ys ((inn e).map encb) →
        (∀ (y : V) (u : β) (G3 H3 : Hp), u ∈ inn e → Same G1 G3 → Same G3 H3 → Rp G3 y (encb u) → ∀ Qy : VK, (∀ G4 H4, Adv0 G3 H3 G4 H4 → Qy (.int (f u)) H4) → g1 y σ1 H3 fun σ3 H5 => wipe σ3 vs1 = σ1 ∧ te σ3 H5 Qy) → R σ2 (Itl K b) H1) →
      g x σ0 H1 fun σ2 H2 => wipe σ2 vs = σ0 ∧ wi1 σ2 H2 (R σ2))
    (q : ∀ D G' H', Adv0 G H G' H' → G' D = some (.lst (((as.flatMap inn).map f).map V.int)) → Q (.ref D) H') : Lc2R g tYes wi1 g1 tYes te vs vs1 σ (Itl K a) H Q := fun D hD => by
  subst e0
  have a0 : Adv0 G H G H := .refl sG
  have ln : xs.length = as.length := by rw [hr.len, List.length_map]
  refine ⟨fun i m H1 => m = xs.length - i ∧ i ≤ xs.length ∧ ∃ G1, Adv0 G H G1 H1 ∧ Mt H G1 H1 D (.lst ((((as.take i).flatMap inn).map f).map V.int)), ⟨xs.length, by simp, Nat.zero_le _, G, a0.new hD, .mk_new a0 hD⟩, ?_⟩
  rintro i m H1 ⟨rfl, hi, G1, A, mt⟩
  have sq : SqL K H1 a xs := A.l ha
  by_cases hlt : i < xs.length
  · refine .inr ⟨⟨xs, xs[i], sq, by simp [hlt]⟩, fun H' => i + 1 ≤ xs.length ∧ ∃ G1, Adv0 G H G1 H' ∧ Mt H G1 H' D (.lst ((((as.take (i + 1)).flatMap inn).map f).map V.int)), fun H' p' => ⟨xs.length - (i + 1), by omega, rfl, p'⟩, fun x H' y => ?_⟩
    obtain ⟨e, y⟩ := y
    subst e
    have hx := y xs sq
    obtain ⟨d, hd, rx⟩ := hr.getV hx
    obtain ⟨e, he, rfl⟩ := get_map_inv hd
    have hem := List.mem_of_getElem? he
    have hsn : (as.take (i + 1)).flatMap inn = (as.take i).flatMap inn ++ inn e := by
      rw [take_snoc he, List.flatMap_append]
      simp
    have htot : ((as.take (i + 1)).flatMap inn).length ≤ 100000 := by
      have h2 : (as.flatMap inn).length = ((as.take (i + 1)).flatMap inn).length + ((as.drop (i + 1)).flatMap inn).length := by
        conv => lhs; rw [← List.take_append_drop (i + 1) as, List.flatMap_append, List.length_append]
      omega
    rw [hsn, List.length_append] at htot
    refine hs x e G1 H' hem A (rx.mono A.gg) (fun σ2 J1 H4 => _) fun σ2 σ1 e1 b ys hb hy hin => ?_
    subst e1
    have ly : ys.length = (inn e).length := by rw [hy.len, List.length_map]
    refine ⟨fun j k H2 => k = ys.length - j ∧ j ≤ ys.length ∧ ∃ G2, Same G1 G2 ∧ Adv0 G H G2 H2 ∧ Mt H G2 H2 D (.lst ((((as.take i).flatMap inn ++ (inn e).take j).map f).map V.int)), ⟨ys.length, by simp, Nat.zero_le _, G1, .refl _, A, by simpa using mt⟩, ?_⟩
    rintro j k H2 ⟨rfl, hj, G2, B2, A2, m2⟩
    have sq2 : SqL K H2 b ys := ql A2.gh (B2 _ _ hb)
    by_cases hlt2 : j < ys.length
    · refine .inr ⟨⟨ys, ys[j], sq2, by simp [hlt2]⟩, fun H3 => j + 1 ≤ ys.length ∧ ∃ G3, Same G1 G3 ∧ Adv0 G H G3 H3 ∧ Mt H G3 H3 D (.lst ((((as.take i).flatMap inn ++ (inn e).take (j + 1)).map f).map V.int)), fun H3 p3 => ⟨ys.length - (j + 1), by omega, rfl, p3⟩, fun y H3 y3 => ?_⟩
      obtain ⟨e3, y3⟩ := y3
      subst e3
      have hy3 := y3 ys sq2
      obtain ⟨d, hd, ry⟩ := hy.getV hy3
      obtain ⟨u, hu, rfl⟩ := get_map_inv hd
      refine hin y u G2 H3 (List.mem_of_getElem? hu) B2 A2.gh (ry.mono B2) _ fun G4 H4 B4 => ?_
      have m4 := m2.call B4
      refine ⟨_, m4.h, line_lt (by rw [List.length_map, List.length_map, List.length_append, List.length_take]; omega), by omega, G4, ?_, ?_, ?_⟩
      · exact B2.trans B4.gg
      · exact m4.wrA (A2.call B4)
      · rw [show (((as.take i).flatMap inn ++ (inn e).take (j + 1)).map f).map V.int = (((as.take i).flatMap inn ++ (inn e).take j).map f).map V.int ++ [V.int (f u)] by rw [take_snoc hu]; simp]
        exact m4.wr
    · have ej : j = ys.length := by omega
      subst ej
      rw [List.take_of_length_le (l := inn e) (by omega), ← hsn] at m2
      exact .inl ⟨⟨ys, sq2, Nat.le_refl _⟩, by omega, G2, A2, m2⟩
  · have e : i = xs.length := by omega
    subst e
    rw [List.take_of_length_le (by omega)] at mt
    exact .inl ⟨⟨xs, sq, Nat.le_refl _⟩, q D _ H1 (A.still mt.f mt.h mt.g) upd_same⟩
end
/-! ### max(xs, default=0) -/
section
open PySem.W
theorem foldl_max : ∀ (ns : List Nat) (a : Nat), (ns.map fun n : Nat => (n : Int)).foldl (fun a y => if DatumOrd.lt a y = true then y else a) (a : Int) = ((max a (maxN ns) : Nat) : Int)
  | [], a => by
    show (a : Int) = ((max a 0 : Nat) : Int)
    omega
  | n :: ns, a => by
    rw [List.map_cons, List.foldl_cons]
    have e : (if DatumOrd.lt (a : Int) (n : Int) = true then (n : Int) else (a : Int)) = ((max a n : Nat) : Int) := by
      show (if decide ((a : Int) < n) = true then (n : Int) else a) = _
      by_cases c : a < n
      · rw [if_pos (decide_eq_true (by omega))]
        omega
      · rw [if_neg (by intro z; have := of_decide_eq_true z; omega)]
        omega
    rw [e, foldl_max ns]
    show ((max (max a n) (maxN ns) : Nat) : Int) = ((max a (max n (maxN ns)) : Nat) : Int)
    rw [Nat.max_assoc]
def rMaxD (K : PySem.W.Frag) : List V → List V → Hp → VK → Prop := fun vs zs H Q => ∃ (a : Addr) (ns : List Nat), vs = [V.ref a] ∧ zs = [V.int 0] ∧ SqL K H a ((ns.map fun n : Nat => (n : Int)).map V.int) ∧ Q (.int (maxN ns)) H
theorem cr_maxD {X : Cx} (hc : X.calm = true) (hu : X.A.units + 64 < cLine) : CallRK X (.builtin "max") [Str.ofString "default"] (rMaxD X.K) := by
  intro pins s σ H vs zs us ws Q I r rz h
  obtain ⟨a, ns, rfl, rfl, hs, q⟩ := h
  obtain rfl := Vals.ref1 r
  obtain ⟨w1, rfl, t, rfl⟩ := vals1 rz
  obtain ⟨its, rv, hl, _⟩ := I.list hs
  refine max_list_datum_default (α := Int) (xs := ns.map fun n : Nat => (n : Int)) (I.ok.hd hc) hl.isList (HoldAll.of_ints rv.ints) (by show _ + 1 + 0 < cLine; omega) (fun e h' tk hk => ?_) fun y ys i v h' tk e hi hv hk => ?_
  · have e' : ns = [] := List.map_eq_nil_iff.mp e
    subst e'
    exact ⟨.int 0, H, I.kept hk, ⟨_, rfl⟩, q⟩
  · cases ns with
    | nil => cases e
    | cons n ns =>
      rw [List.map_cons] at e
      injection e with e1 e2
      subst e1 e2
      obtain ⟨as, hv⟩ := hv
      have ev : maxOf (n : Int) (ns.map fun n : Nat => (n : Int)) = ((maxN (n :: ns) : Nat) : Int) := by
        unfold maxOf
        rw [foldl_max]
        rfl
      rw [ev] at hv
      cases hv
      exact ⟨.int _, H, I.kept hk, ⟨_, rfl⟩, q⟩
end
section
variable {P : Program} {w : World} {K : PySem.W.Frag} {mg : Str → Option Value} {base : Heap}
theorem S_ckw {r : List V → List V → Hp → VK → Prop} {t tk : TA} {σ : L2.St} {H : Hp} {Q : VK} (h : t σ H fun vs H1 => tk σ H1 fun zs H2 => r vs zs H2 Q) : tCKw r t tk σ H Q := h
def endP (p : Pr) : Nat := maxN ((p.tracks.flatMap fun t => t.units).map fun u => u.time + u.span)
def sp_end_of : Sp := fun vs H Q _ => ∃ (G : Hp) (r : V) (p : Pr), Same G H ∧ vs = [r] ∧ Rp G r (PrD p) ∧ (p.tracks.flatMap fun t => t.units).length ≤ 1000 ∧ Post G H Q fun v _ => v = .int (endP p)
theorem sc_end_of : FnScope n_end_of p_end_of (defScope s_end_of) := ⟨rfl, rfl, rfl, by decide +kernel, rfl, by decide +kernel, by decide +kernel⟩
theorem ok_end_of (T : Facts K mg) : FnOk P w K mg base CX0 1 (fA K "end_of") (fD K "end_of") p_end_of sp_end_of := by
  refine T.end_of.F.ok sc_end_of (fun vs H Q E h => ?_) (fun cdv A outer s H vs Q E hr h => ?_)
  · obtain ⟨G, r, p, _, rfl, _⟩ := h
    rfl
  · obtain ⟨G, r, p, sG, rfl, hr0, l1, q⟩ := h
    obtain ⟨a, t, g, rfl, ha, ht, hg⟩ := hr0.pr
    obtain ⟨t, xs, rfl, ht, hx⟩ := ht.list
    refine ⟨_, PSs.nox (pss_one (ps_ret (pe_callBK (cr_maxD rfl hr.units) rfl T.z_max bi_max (pa_cons (pe_lc2 (own := [("_", 1), ("units", 2), ("time", 3), ("span", 4)]) (vs1 := [1, 3, 4]) rfl sc_end_of.nd (pi_list (pe_ix ix_tup (pv 0) pe_int (fun _ _ => rfl))) (blkOk_by (own := [("_", 1), ("units", 2), ("time", 3), ("span", 4)]) (N := n_end_of) (sc := defScope s_end_of) (by decide +kernel)) (by decide) (fun _ _ _ _ _ => (pg_tupK (K := K) (n := 3) rfl rfl (pgs_cons (pg_name (i := 1) sc_end_of.nd rfl (.inl rfl)) (pgs_cons (pg_name (i := 1) sc_end_of.nd rfl (.inl rfl)) (pgs_cons (pg_name (i := 2) sc_end_of.nd rfl (.inl rfl)) pgs_nil))))) (fun _ _ _ _ _ => pts_nil) (fun _ _ _ _ _ => (pi_listK (K := K) rfl (pv 2))) (fun _ _ _ _ _ => (pg_tupK (K := K) (n := 4) rfl rfl (pgs_cons (pg_name (i := 3) sc_end_of.nd rfl (.inl rfl)) (pgs_cons (pg_name (i := 4) sc_end_of.nd rfl (.inl rfl)) (pgs_cons (pg_name (i := 1) sc_end_of.nd rfl (.inl rfl)) (pgs_cons (pg_name (i := 1) sc_end_of.nd rfl (.inl rfl)) pgs_nil)))))) (fun _ _ _ _ _ => pts_nil) (fun _ _ _ _ _ => (pe_op op_add (pv 3) (pv 4)))) pa_nil) (pk_cons pe_int pk_nil)))), ?_⟩
    have A : Adv0 G H G H := .refl sG
    walk_at "sp"
    refine S_ckw ?_
    walk_at "sp"
    refine S_lc2 ?_
    walk_at "sp"
    refine S_lc2I (as := p.tracks) TkD (fun t => t.units) UnD (fun u => ((u.time + u.span : Nat) : Int)) sG ht hx (by omega) [some (.ref a), none, none, none, none] rfl (fun x e G1 H1 hem A1 rx R hR => ?_) (fun D G1 H1 A1 hD => ?_)
    · obtain ⟨b, u, rfl, hb, hu⟩ := rx.tk
      obtain ⟨c, ys, rfl, hc, hy⟩ := hu.list
      refine S_gtup (qt A1.gh hb) rfl ?_
      walk_at "sp"
      refine ⟨rfl, ?_⟩
      walk_at "sp"
      refine hR _ [some (.ref a), none, some (.ref c), none, none] rfl c ys hc hy fun y un G3 H3 hun g13 s3 ry Qy qy => ?_
      obtain ⟨d, f, rfl, hd, hf⟩ := ry.un
      refine S_gtup (qt s3 hd) rfl ?_
      walk_at "sp"
      refine ⟨rfl, ?_⟩
      walk_at "sp"
      have := qy G3 H3 (.refl s3)
      rw [Int.natCast_add] at this
      exact this
    · walk_at "sp"
      refine ⟨D, (p.tracks.flatMap fun t => t.units).map fun u => u.time + u.span, rfl, rfl, ?_, ?_⟩
      · rw [List.map_map, ← List.map_map (g := V.int)] 
        exact ql A1.gh (by rw [hD, List.map_map, List.map_map, List.map_map]; rfl)
      · exact q _ _ _ A1 rfl
end
/-! w47 -/
section
variable {P : Program} {w : World} {K : PySem.W.Frag} {mg : Str → Option Value} {base : Heap}
/-! ### cutting -/
def fstM (s : Int) : Nat → Nat → List Mv → Nat
  | _, cur, [] => cur
  | i, cur, l :: ls => fstM s (i + 1) (if l.key = 1 ∧ (l.time : Int) ≤ s then i else cur) ls
def takM (ls : List Mv) (s t : Int) : List Mv := (ls.drop (fstM s 0 0 ls)).filter fun l => decide ((l.time : Int) < t)
theorem fstK_map {s : Int} : ∀ {ls : List Lf} {i c : Nat}, fstK s i c ls = fstM s i c (ls.map lMv)
  | [], _, _ => rfl
  | l :: ls, i, c => by
    rw [fstK, List.map_cons, fstM, fstK_map]
    rfl
theorem takF_map {ls : List Lf} {s t : Int} : (takF ls s t).map lMv = takM (ls.map lMv) s t := by
  rw [takF, takM, ← fstK_map, ← List.map_drop, List.filter_map]
  rfl
def shD (b : Nat) (m : Mv) : Mv := ⟨m.time - b, m.span, m.key, m.body⟩
theorem MOk.sub {ms ms' : List Mv} (h : ms'.Sublist ms) : ∀ {l : Nat}, MOk l ms → MOk l ms' := by
  induction h with
  | slnil => exact fun o => o
  | cons m _ ih =>
    intro l o
    obtain ⟨o1, o2, o3, o4, o5, o6, o7, o8⟩ := o
    exact (ih o8).mono (by omega)
  | cons_cons m _ ih =>
    intro l o
    obtain ⟨o1, o2, o3, o4, o5, o6, o7, o8⟩ := o
    exact ⟨o1, o2, o3, o4, o5, o6, o7, ih o8⟩
theorem MOk.down {b : Nat} : ∀ {ms : List Mv} {l : Nat}, MOk l ms → (∀ m ∈ ms, b ≤ m.time) → MOk (l - b) (ms.map (shD b))
  | [], _, _, _ => True.intro
  | m :: ms, l, o, h => by
    obtain ⟨o1, o2, o3, o4, o5, o6, o7, o8⟩ := o
    have hb := h m List.mem_cons_self
    have ih := MOk.down o8 fun x hx => h x (List.mem_cons_of_mem _ hx)
    refine ⟨by show l - b ≤ m.time - b; omega, by show m.time - b < _; omega, o3, o4, o5, o6, o7, ?_⟩
    show MOk (m.time - b + m.span) _
    rw [show m.time - b + m.span = m.time + m.span - b by omega]
    exact ih
theorem MOk.ge : ∀ {ms : List Mv} {l : Nat}, MOk l ms → ∀ m ∈ ms, l ≤ m.time
  | [], _, _, _, h => nomatch h
  | m :: ms, l, ⟨o1, o2, o3, o4, o5, o6, o7, o8⟩, n, hn => by
    rcases List.mem_cons.mp hn with rfl | hn
    · exact o1
    · have := MOk.ge o8 n hn
      omega
theorem takM_sub (ms : List Mv) (s t : Int) : (takM ms s t).Sublist ms := (List.filter_sublist ..).trans (List.drop_sublist ..)
theorem fstM_key {s : Int} : ∀ {ls : List Mv} {i c : Nat}, (fstM s i c ls = c ∨ ∃ j m, fstM s i c ls = i + j ∧ ls[j]? = some m ∧ m.key = 1 ∧ (m.time : Int) ≤ s)
  | [], _, _ => .inl rfl
  | l :: ls, i, c => by
    rw [fstM]
    rcases fstM_key (s := s) (ls := ls) (i := i + 1) (c := if l.key = 1 ∧ (l.time : Int) ≤ s then i else c) with h | ⟨j, m, h1, h2⟩
    · by_cases k : l.key = 1 ∧ (l.time : Int) ≤ s
      · rw [if_pos k] at h ⊢
        exact .inr ⟨0, l, h, rfl, k⟩
      · rw [if_neg k] at h ⊢
        exact .inl h
    · exact .inr ⟨j + 1, m, by omega, h2⟩
theorem takM_head {ms : List Mv} {s t : Int} (o : MOk 0 ms) (h : ∀ m, ms[0]? = some m → m.key = 1) (m : Mv) (hm : (takM ms s t)[0]? = some m) : m.key = 1 := by
  have hd : ∀ n, (ms.drop (fstM s 0 0 ms))[0]? = some n → n.key = 1 := fun n hn => by
    rw [List.getElem?_drop, Nat.add_zero] at hn
    rcases fstM_key (s := s) (ls := ms) (i := 0) (c := 0) with e | ⟨j, k, e1, e2, e3, _⟩
    · rw [e] at hn
      exact h n hn
    · rw [e1, Nat.zero_add, e2] at hn
      exact Option.some.inj hn ▸ e3
  have o2 : MOk 0 (ms.drop (fstM s 0 0 ms)) := o.sub (List.drop_sublist ..)
  rw [takM] at hm
  generalize ms.drop (fstM s 0 0 ms) = r at hd o2 hm
  cases r with
  | nil => simp at hm
  | cons a r =>
    rw [List.filter_cons] at hm
    by_cases c : (a.time : Int) < t
    · rw [if_pos (decide_eq_true c)] at hm
      rw [← Option.some.inj hm]
      exact hd a rfl
    · rw [if_neg (by intro z; exact c (of_decide_eq_true z))] at hm
      have : (r.filter fun l => decide ((l.time : Int) < t)) = [] := List.filter_eq_nil_iff.mpr fun x hx z => by
        have z := of_decide_eq_true z
        have := o2.2.2.2.2.2.2.2.ge x hx
        omega
      rw [this] at hm
      simp at hm
def cutM (s t : Int) (b : Nat) (tr : List (List Mv)) : List (List Mv) := tr.map fun ms => (takM ms s t).map (shD b)
theorem sub_flat {α : Type} {f : List α → List α} (h : ∀ l, (f l).length ≤ l.length) : ∀ tr : List (List α), (tr.map f).flatten.length ≤ tr.flatten.length
  | [] => Nat.le_refl _
  | t :: tr => by
    have := sub_flat h tr
    have := h t
    rw [List.map_cons, List.flatten_cons, List.flatten_cons, List.length_append, List.length_append]
    omega
theorem cutM_tot {s t : Int} {b : Nat} (tr : List (List Mv)) : (cutM s t b tr).flatten.length ≤ tr.flatten.length := by
  have h1 : ((tr.map fun ms => takM ms s t).flatten).length ≤ tr.flatten.length := sub_flat (fun l => (takM_sub l s t).length_le) tr
  have h2 : (cutM s t b tr).flatten = (tr.map fun ms => takM ms s t).flatten.map (shD b) := by
    rw [cutM, List.map_flatten, List.map_map]
    rfl
  rw [h2, List.length_map]
  exact h1
theorem cut_win {tk sk s1 s b : Nat} {nk : List (Str × Str)} {g : List TagT} {tr : List (List Mv)} {x y : Int} {sk' : Nat} (W : WIn tk sk s1 nk g tr) (hs : s ≤ 1000) (hk : sk' < 1099511627776) (hb : ∀ ms ∈ tr, ∀ m ∈ takM ms x y, b ≤ m.time) : WIn tk sk' s nk g (cutM x y b tr) := by
  have l1 := W.len
  have l4 := W.l4
  have lc : (cutM x y b tr).length = tr.length := List.length_map ..
  refine ⟨hs, W.tk, hk, by omega, by omega, W.nk, W.tagsL, W.tag, W.sort, fun ms hms => ?_, fun ms hms m hm => ?_, Nat.le_trans (cutM_tot tr) W.tot⟩
  · obtain ⟨n, hn, rfl⟩ := List.mem_map.mp hms
    have := ((W.mok n hn).sub (takM_sub n x y)).down (hb n hn)
    rw [Nat.zero_sub] at this
    exact this
  · obtain ⟨n, hn, rfl⟩ := List.mem_map.mp hms
    rw [List.getElem?_map] at hm
    obtain ⟨k, h1, rfl⟩ := Option.map_eq_some_iff.mp hm
    exact takM_head (W.mok n hn) (W.key n hn) k h1
theorem flat_lenA {α : Type} {n : Nat} : ∀ {l : List (List α)}, (∀ t ∈ l, t.length ≤ n) → (l.flatMap id).length ≤ n * l.length
  | [], _ => by simp
  | t :: l, h => by
    have h1 := flat_lenA fun x hx => h x (List.mem_cons_of_mem _ hx)
    have h2 := h t List.mem_cons_self
    rw [List.flatMap_cons, List.length_append, List.length_cons, Nat.mul_succ]
    show (id t).length + _ ≤ _
    rw [id]
    omega
def sp_cut : Sp := fun vs H Q _ => ∃ (G : Hp) (r : V) (x y tk sk s c : Nat) (nk : List (Str × Str)) (g : List TagT) (tr : List (List Mv)), Same G H ∧ vs = [r, .int x, .int y, .int c, .int s] ∧ FileAt G r tk sk nk g tr ∧ sk ≤ x ∧ x ≤ y ∧ x < 1099511627776 ∧ s ≤ 1000 ∧ c ≤ 1000 ∧
  Post G H Q fun v G' => ∃ b : Nat, b ≤ x ∧ (∀ ms ∈ tr, ∀ m ∈ takM ms x y, b ≤ m.time) ∧ FileAt G' v tk (x - b) nk g (cutM x y b tr)
theorem sc_cut : FnScope n_cut p_cut (defScope s_cut) := ⟨rfl, rfl, rfl, by decide +kernel, rfl, by decide +kernel, by decide +kernel⟩
theorem ok_cut (T : Facts K mg) : FnOk P w K mg base CX0 10 (fA K "cut") (fD K "cut") p_cut sp_cut := by
  refine T.cut.F.ok sc_cut (fun vs H Q E h => ?_) (fun cdv A outer s H vs Q E hr h => ?_)
  · obtain ⟨G, r, x, y, tk, sk, st, c, nk, g, tr, _, rfl, _⟩ := h
    rfl
  · obtain ⟨G, r, x, y, tk, sk, st, c, nk, g, tr, sG, rfl, ⟨F, f, hr0⟩, hx, hy, hx2, hs, hc, q⟩ := h
    obtain ⟨s1, W⟩ := f.win
    have rl := f.rl
    have n1 := f.nkE
    have w1 := W.len
    have w4 := W.l4
    have us := f.fv.usL
    refine ⟨_, PSs.nox (pss_cons (ps_asg (pe_call (ok_checked_leaves T) (hr.mono (by decide)) (by rfl) T.checked_leaves.g T.checked_leaves.kp T.checked_leaves.b .nil pass0 (pa_cons (pv 0) pa_nil)) (pg_tup rfl (pgs_cons (pg_name (i := 5) sc_cut.nd rfl (.inl rfl)) (pgs_cons (pg_name (i := 6) sc_cut.nd rfl (.inl rfl)) (pgs_cons (pg_name (i := 7) sc_cut.nd rfl (.inl rfl)) (pgs_cons (pg_name (i := 8) sc_cut.nd rfl (.inl rfl)) pgs_nil))))))
  (pss_cons (ps_asg (pv 5) (pg_tup rfl (pgs_cons (pg_name (i := 9) sc_cut.nd rfl (.inl rfl)) (pgs_cons (pg_name (i := 10) sc_cut.nd rfl (.inl rfl)) (pgs_cons (pg_name (i := 11) sc_cut.nd rfl (.inl rfl)) pgs_nil)))))
  (pss_cons (ps_if (pt_cmpR op_lt (pv 1) (pv 10) (nomark _))
    pss_never
    pss_nil)
  (pss_cons (ps_if (pt_cmpR op_lt (pv 2) (pv 1) (nomark _))
    pss_never
    pss_nil)
  (pss_cons (ps_setLc (i := 12) (own := [("leaves", 13)]) rfl sc_cut.nd rfl rfl (sw_true rfl rfl rfl (by decide +kernel)) (pi_list (pe_call (ok_by_track T) (hr.mono (by decide)) (by rfl) T.by_track.g T.by_track.kp T.by_track.b .nil pass0 (pa_cons (pv 5) (pa_cons (pv 7) pa_nil)))) (blkOk_by (own := [("leaves", 13)]) (N := n_cut) (sc := defScope s_cut) (by decide +kernel)) (fun _ _ _ _ _ => (pg_name (i := 13) sc_cut.nd rfl (.inl rfl))) (fun _ _ _ _ _ => pts_nil) (fun _ _ _ _ _ => (pe_call (ok_taken T) (hr.mono (by decide)) (by rfl) T.taken.g T.taken.kp T.taken.b .nil pass0 (pa_cons (pv 13) (pa_cons (pv 1) (pa_cons (pv 2) pa_nil))))))
  (pss_cons (ps_set (i := 14) sc_cut.nd rfl (.inr rfl) (pe_callB (cr_min rfl) rfl T.z_min bi_min (pa_cons (pe_op op_cat (pe_lst (pa_cons (pv 1) pa_nil)) (pe_lc2 (own := [("leaves", 13), ("leaf", 15)]) (vs1 := [15]) rfl sc_cut.nd (pi_list (pv 12)) (blkOk_by (own := [("leaves", 13), ("leaf", 15)]) (N := n_cut) (sc := defScope s_cut) (by decide +kernel)) (by decide) (fun _ _ _ _ _ => (pg_name (i := 13) sc_cut.nd rfl (.inl rfl))) (fun _ _ _ _ _ => pts_nil) (fun _ _ _ _ _ => (pi_listK (K := K) rfl (pv 13))) (fun _ _ _ _ _ => (pg_name (i := 15) sc_cut.nd rfl (.inl rfl))) (fun _ _ _ _ _ => pts_nil) (fun _ _ _ _ _ => (pe_ix (r := rIxT K) ix_tup (pv 15) (pe_gi rfl T.g_TIME) (fun _ _ => rfl))))) pa_nil)))
  (pss_cons (ps_setLc (i := 16) (own := [("leaves", 13)]) rfl sc_cut.nd rfl rfl (sw_true rfl rfl rfl (by decide +kernel)) (pi_list (pv 12)) (blkOk_by (own := [("leaves", 13)]) (N := n_cut) (sc := defScope s_cut) (by decide +kernel)) (fun _ _ _ _ _ => (pg_name (i := 13) sc_cut.nd rfl (.inl rfl))) (fun _ _ _ _ _ => pts_nil) (fun _ _ _ _ _ => (pe_lc (own := [("leaf", 15)]) rfl sc_cut.nd (pi_listK (K := K) rfl (pv 13)) (blkOk_by (own := [("leaf", 15)]) (N := n_cut) (sc := { kind := .function, names := [(".0", .local), ("leaves", .local), ("base", .cell)], isGenerator := false, isCoroutine := false }) (by decide +kernel)) (fun _ _ _ _ _ => (pg_name (i := 15) sc_cut.nd rfl (.inl rfl))) (fun _ _ _ _ _ => pts_nil) (fun _ _ _ _ _ => (pe_call (ok_moved T) (hr.mono (by decide)) (by rfl) T.moved.g T.moved.kp T.moved.b .nil pass0 (pa_cons (pv 15) (pa_cons (pe_un un_neg (pv 14)) pa_nil)))))))
  (pss_one (ps_ret (pe_call (ok_file_from T) (hr.mono (by decide)) (by rfl) T.file_from.g T.file_from.kp T.file_from.b .nil pass0 (pa_cons (pe_tup (pa_cons (pv 9) (pa_cons (pe_op op_sub (pv 1) (pv 14)) (pa_cons (pv 11) pa_nil)))) (pa_cons (pv 6) (pa_cons (pv 16) (pa_cons (pv 3) (pa_cons (pv 4) pa_nil))))))))))))))), ?_⟩
    have A : Adv0 G H G H := .refl sG
    walk_at "sp"
    refine ⟨F, G, r, sG, rfl, hr0, f.fv, fun v1 G1 H1 B1 rv1 => ?_⟩
    have A1 := A.call B1
    obtain ⟨a1, d1, d2, d3, d4, rfl, ha1, rh, rt, ru⟩ := rv1.ck
    rw [f.etk, f.esk] at rh
    rw [f.etags] at rt
    obtain ⟨h1, rr, xr, rfl, hh1, hrr, hxr⟩ := rh.hdr
    refine S_gtup (qt A1.gh ha1) rfl ?_
    repeat (with_reducible first | refine S_gcons ?_ | refine S_gnil ?_ | refine S_name ?_)
    refine S_st (σ' := [some r, some (.int x), some (.int y), some (.int c), some (.int st), some (.ref h1), some d2, some d3, some d4, none, none, none, none, none, none, none, none]) rfl ?_
    walk_at "sp"
    refine ⟨G1, _, _, tk, sk, F.rows, F.us, A1.gh, rfl, .tup hh1 (.cons (.int _) (.cons (.int _) (.cons (.lst hrr hxr) .nil))), ru, by omega, by omega, fun l hl => ?_, fun v2 G2 H2 B2 rv2 => ?_⟩
    · obtain ⟨i, hi⟩ := List.mem_iff_getElem?.mp hl
      have u := f.fv.un i l hi
      exact ⟨u.t0, u.t1⟩
    have A2 := A1.call B2
    have lll : (lls F).length = tr.length := by rw [lls, List.length_map, List.length_range, rl]
    have llm : ∀ {t : List Lf}, t ∈ lls F → t.length ≤ 50 := fun {t} ht => by
      obtain ⟨k, _, rfl⟩ := List.mem_map.mp ht
      have := List.length_filter_le (fun l : Lf => decide (l.track = k + 1)) F.us
      unfold trk
      omega
    have rv2' : Rp G2 v2 (LlD (lls F)) := by
      have e : trkD F.rows.length F.us = LlD (lls F) := by rw [lls, LlD, List.map_map]; rfl
      rw [← e]
      exact rv2
    obtain ⟨b1, y1, rfl, hb1, hy1⟩ := rv2'.list
    walk_at "sp"
    refine S_lcA (as := lls F) (fun t => .list (t.map LfD)) (fun t => .list ((takF t x y).map LfD)) A2.gh hb1 hy1 (by omega) (fun i v e G3 H3 hxi hei A3 rx Qy qy => ?_) (fun D G3 H3 acc A3 hD r3 => ?_)
    · have := llm (List.mem_of_getElem? hei)
      walk_at "sp"
      refine ⟨rfl, ?_⟩
      walk_at "sp"
      exact ⟨G3, v, e, x, y, A3.gh, rfl, rx, by omega, fun v4 G4 H4 B4 rv4 => qy _ _ _ B4 rv4⟩
    have A3' := A2.call A3
    refine S_name ?_
    refine S_st (σ' := [some r, some (.int x), some (.int y), some (.int c), some (.int st), some (.ref h1), some d2, some d3, some d4, some (.int tk), some (.int sk), some (.ref rr), some (.ref D), none, none, none, none]) rfl ?_
    generalize hTL : (lls F).map (fun t => takF t x y) = tl
    have r3' : RpL G3 acc (tl.map fun t => PyData.list (t.map LfD)) := by rw [← hTL, List.map_map]; exact r3
    have htl : tl.map (fun t => t.map lMv) = tr.map fun ms => takM ms x y := by
      rw [← hTL, List.map_map, ← f.lls, List.map_map]
      exact List.map_congr_left fun t _ => takF_map
    have ltl : tl.length = tr.length := by rw [← hTL, List.length_map, lll]
    have ltt : ∀ {t : List Lf}, t ∈ tl → t.length ≤ 50 := fun {t} ht => by
      rw [← hTL] at ht
      obtain ⟨u, hu, rfl⟩ := List.mem_map.mp ht
      have h1 := llm hu
      have h2 : (takF u x y).length ≤ u.length := ((List.filter_sublist ..).trans (List.drop_sublist ..)).length_le
      omega
    have lfl : (tl.flatMap id).length ≤ 1000 := by
      have h : ∀ (l : List (List Lf)), (∀ t ∈ l, t.length ≤ 50) → (l.flatMap id).length ≤ 50 * l.length := fun l h => flat_lenA h
      have := h tl fun t ht => ltt ht
      omega
    walk_at "sp"
    refine ⟨line_le (by simp), S_newF A3' fun p4 G4 H4 A4 g4 hp4 _ => ?_⟩
    walk_at "sp"
    refine S_lc2 ?_
    have hD4 := g4 _ _ hD
    walk_at "sp"
    refine S_lc2I (as := tl) (fun t => .list (t.map LfD)) id LfD (fun l => (l.time : Int)) A4.gh hD4 (r3'.mono g4) (by omega) [some r, some (.int x), some (.int y), some (.int c), some (.int st), some (.ref h1), some d2, some d3, some d4, some (.int tk), some (.int sk), some (.ref rr), some (.ref D), none, none, none, none] ?_ (fun v e G5 H5 hem A5 rx R hR => ?_) (fun D2 G5 H5 A5 hD2 => ?_)
    · rfl
    · obtain ⟨u, ys, rfl, hu, hy⟩ := rx.list
      walk_at "sp"
      refine ⟨rfl, ?_⟩
      walk_at "sp"
      refine hR _ [some r, some (.int x), some (.int y), some (.int c), some (.int st), some (.ref h1), some d2, some d3, some d4, some (.int tk), some (.int sk), some (.ref rr), some (.ref D), some (.ref u), none, none, none] rfl u ys hu hy fun v l G6 H6 hl g56 s6 rl6 Qy qy => ?_
      obtain ⟨a, b, rfl, ha, hb⟩ := rl6.lf
      walk_at "sp"
      refine ⟨rfl, ?_⟩
      walk_at "sp"
      exact qy _ _ (.refl s6)
    have A5' := A4.call A5
    walk_at "sp"
    refine S_catF (xs := [(x : Int)]) A5' (A5.gg _ _ hp4) hD2 (by rw [List.length_map, List.length_singleton]; omega) fun p6 G6 H6 A6 g6 hp6 _ => ?_
    walk_at "sp"
    refine S_min (ql A6.gh hp6) (by simp) fun m hm hle => ?_
    obtain ⟨b, hbm, hbx, hbl⟩ : ∃ b : Nat, m = b ∧ b ≤ x ∧ ∀ t ∈ tl, ∀ l ∈ t, b ≤ l.time := by
      have h1 := hle x List.mem_cons_self
      have h2 : 0 ≤ m := by
        rcases List.mem_append.mp hm with h | h
        · rw [List.mem_singleton.mp h]
          omega
        · obtain ⟨l, _, rfl⟩ := List.mem_map.mp h
          omega
      refine ⟨m.toNat, by omega, by omega, fun t ht l hl => ?_⟩
      have h3 := hle (l.time : Int) (List.mem_append_right _ (List.mem_map.mpr ⟨l, List.mem_flatMap.mpr ⟨t, ht, hl⟩, rfl⟩))
      omega
    subst hbm
    have hbt : ∀ ms ∈ tr, ∀ m ∈ takM ms x y, b ≤ m.time := fun ms hms m hm => by
      have : takM ms x y ∈ tl.map fun t => t.map lMv := by
        rw [htl]
        exact List.mem_map.mpr ⟨ms, hms, rfl⟩
      obtain ⟨t, ht, e⟩ := List.mem_map.mp this
      rw [← e] at hm
      obtain ⟨l, hl, rfl⟩ := List.mem_map.mp hm
      exact hbl t ht l hl
    have Wc := cut_win W hs (show x - b < 1099511627776 by omega) hbt
    have hD6 := g6 _ _ (A5.gg _ _ hD4)
    refine S_name ?_
    refine S_st (σ' := [some r, some (.int x), some (.int y), some (.int c), some (.int st), some (.ref h1), some d2, some d3, some d4, some (.int tk), some (.int sk), some (.ref rr), some (.ref D), none, some (.int b), none, none]) rfl ?_
    walk_at "sp"
    refine S_lcA (as := tl) (fun t => .list (t.map LfD)) (fun t => .list (t.map fun l => MvD (shD b (lMv l)))) A6.gh hD6 (r3'.mono (g4.trans (A5.gg.trans g6))) (by omega) (fun i v e G7 H7 hxi hei A7 rx Qy qy => ?_) (fun D7 G7 H7 acc7 A7 hD7 r7 => ?_)
    · have he := List.mem_of_getElem? hei
      have := ltt he
      obtain ⟨u, ys, rfl, hu, hy⟩ := rx.list
      walk_at "sp"
      refine ⟨rfl, ?_⟩
      walk_at "sp"
      refine S_lcA (as := e) LfD (fun l => MvD (shD b (lMv l))) A7.gh hu hy (by omega) (fun j v2 l G8 H8 hxj hej A8 rx8 Qy8 qy8 => ?_) (fun D8 G8 H8 acc8 A8 hD8 r8 => ?_)
      · have hl := hbl e he l (List.mem_of_getElem? hej)
        walk_at "sp"
        refine ⟨rfl, ?_⟩
        walk_at "sp"
        exact ⟨G8, v2, l, -b, l.time - b, A8.gh, rfl, rx8, by omega, fun v9 G9 H9 B9 rv9 => qy8 _ _ _ B9 rv9⟩
      · exact qy _ _ _ A8 (.lst hD8 r8)
    have A7' := A6.call A7
    have hcm : Rp G7 (.ref D7) (MvsD (cutM x y b tr)) := by
      refine .lst hD7 ?_
      have e : (cutM x y b tr).map (fun t => PyData.list (t.map MvD)) = tl.map fun t => .list (t.map fun l => MvD (shD b (lMv l))) := by
        have h2 : cutM x y b tr = (tl.map fun t => t.map lMv).map fun ms => ms.map (shD b) := by
          rw [htl, cutM, List.map_map]
          rfl
        rw [h2, List.map_map, List.map_map]
        exact List.map_congr_left fun t _ => by
          show PyData.list ((((t.map lMv).map (shD b))).map MvD) = _
          rw [List.map_map, List.map_map]
          rfl
      rw [e]
      exact r7
    have g17 : Same G1 G7 := B2.gg.trans (A3.gg.trans (g4.trans (A5.gg.trans (g6.trans A7.gg))))
    refine S_name ?_
    refine S_st (σ' := [some r, some (.int x), some (.int y), some (.int c), some (.int st), some (.ref h1), some d2, some d3, some d4, some (.int tk), some (.int sk), some (.ref rr), some (.ref D), none, some (.int b), none, some (.ref D7)]) rfl ?_
    walk_at "sp"
    refine ⟨line_le (by simp), S_newF A7' fun p8 G8 H8 A8 g8 hp8 _ => ?_⟩
    walk_at "sp"
    have hhd : Rp G8 (.ref p8) (HeadD tk (x - b) F.rows) := by
      refine .tup hp8 (.cons (.int _) (.cons ?_ (.cons ((Rp.lst hrr hxr).mono (g17.trans g8)) .nil)))
      rw [show ((x : Int) - (b : Nat)) = ((x - b : Nat) : Int) by omega]
      exact .int _
    refine ⟨G8, _, _, _, tk, x - b, st, c, F.rows, nk, g, cutM x y b tr, A8.gh, rfl, hhd, rt.mono (g17.trans g8), hcm.mono g8, n1, Wc, by omega, fun v9 G9 H9 B9 hf => ?_⟩
    exact q _ _ _ (A8.call B9) ⟨b, hbx, hbt, hf⟩
end
/-! w48 -/
section
variable {P : Program} {w : World} {K : PySem.W.Frag} {mg : Str → Option Value} {base : Heap}
/-! ### the reader of units -/
def udK (es : List (Nat × Addr)) : List (Key × V) := es.map fun e => ((.inl (e.1 : Int) : Key), V.ref e.2)
theorem udK_none {t : Nat} : ∀ {es : List (Nat × Addr)}, t ∉ es.map (·.1) → valV (udK es) (.inl (t : Int)) = none
  | [], _ => rfl
  | e :: es, h => by
    rw [List.map_cons, List.mem_cons, not_or] at h
    rw [udK, List.map_cons, valV_neg]
    · exact udK_none h.2
    · intro z
      have z' : (e.1 : Int) = t := Sum.inl.inj z
      omega
theorem udK_some {t : Nat} {a : Addr} : ∀ {es : List (Nat × Addr)}, (es.map (·.1)).Nodup → (t, a) ∈ es → valV (udK es) (.inl (t : Int)) = some (.ref a)
  | [], _, h => nomatch h
  | e :: es, nd, h => by
    rw [List.map_cons, List.nodup_cons] at nd
    rw [udK, List.map_cons]
    rcases List.mem_cons.mp h with rfl | h
    · exact valV_pos (p := ((.inl (t : Int) : Key), V.ref a)) rfl
    · rw [valV_neg]
      · exact udK_some nd.2 h
      · intro z
        have z' : (e.1 : Int) = t := Sum.inl.inj z
        have : e.1 = t := by omega
        exact nd.1 (this ▸ List.mem_map.mpr ⟨_, h, rfl⟩)
theorem udK_put {t : Nat} {a : Addr} {es : List (Nat × Addr)} (h : valV (udK es) (.inl (t : Int)) = none) : putK (udK es) (.inl (t : Int)) (.ref a) = udK (es ++ [(t, a)]) := by
  rw [putK, if_neg, udK, udK, List.map_append]
  · rfl
  · rw [valV_any, h]
    exact Bool.false_ne_true
def uAt (uss : List (List Un)) : Nat → List Un
  | 0 => []
  | t + 1 => uss.getD t []
def duU (uss : List (List Un)) (F : Fl) (i t : Nat) : List Un := (uAt uss t).take (trk t (F.us.take i)).length
structure RdIn (F : Fl) (uss : List (List Un)) : Prop where
  is : ∃ tk sk nk tags, FileIs tk sk nk tags (uss.map (encU [])) F
  ok : ∀ us ∈ uss, ∀ u ∈ us, u.content.length ≤ 200
theorem RdIn.fv {F : Fl} {uss : List (List Un)} (h : RdIn F uss) : FV F := by
  obtain ⟨_, _, _, _, f⟩ := h.is
  exact f.fv
theorem trk_split {F : Fl} {i t : Nat} {l : Lf} (h : F.us[i]? = some l) : trk t (F.us.take (i + 1)) = trk t (F.us.take i) ++ if l.track = t then [l] else [] := by
  rw [take_snoc h]
  unfold trk
  rw [List.filter_append, List.filter_cons]
  by_cases c : l.track = t
  · rw [if_pos (decide_eq_true c), if_pos c]
    rfl
  · rw [if_neg (by intro z; exact c (of_decide_eq_true z)), if_neg c]
    rfl
theorem prevC_len {b : List Int} {us : List Un} (h : ∀ u ∈ us, u.content.length ≤ 200) (hb : b.length ≤ 200) : ∀ j, (prevC b us j).length ≤ 200
  | 0 => hb
  | j + 1 => by
    rw [prevC]
    cases e : us[j]? with
    | none => exact Nat.zero_le _
    | some u => exact h u (List.mem_of_getElem? e)
theorem RdIn.leaf {F : Fl} {uss : List (List Un)} (h : RdIn F uss) {i : Nat} {l : Lf} (hi : F.us[i]? = some l) : ∃ us u, uAt uss l.track = us ∧ us[l.ord]? = some u ∧ lMv l = mvOf (prevC [] us l.ord) u ∧ (prevC [] us l.ord).length ≤ 200 ∧ u.content.length ≤ 200 ∧ us ∈ uss := by
  obtain ⟨tk, sk, nk, tags, f⟩ := h.is
  have uv := f.fv.un i l hi
  have rl := f.rl
  rw [List.length_map] at rl
  have t0 := uv.t0
  have t1 := uv.t1
  have hk : uss[l.track - 1]? = some (uss[l.track - 1]'(by omega)) := List.getElem?_eq_getElem (by omega)
  generalize uss[l.track - 1]'(by omega) = us at hk
  have ht := f.trs (l.track - 1) (encU [] us) (by rw [List.getElem?_map, hk]; rfl)
  rw [show l.track - 1 + 1 = l.track by omega] at ht
  have hs : trk l.track F.us = trk l.track (F.us.take i) ++ l :: trk l.track (F.us.drop (i + 1)) := by
    conv => lhs; rw [← List.take_append_drop i F.us, drop_cons hi]
    unfold trk
    rw [List.filter_append, List.filter_cons, if_pos (decide_eq_true rfl)]
  have hg : (trk l.track F.us)[l.ord]? = some l := by
    rw [hs, uv.ord, List.getElem?_append_right (Nat.le_refl _), Nat.sub_self]
    rfl
  have he : (encU [] us)[l.ord]? = some (lMv l) := by rw [← ht, List.getElem?_map, hg]; rfl
  have hj := (List.getElem?_eq_some_iff.mp he).1
  rw [encU_len] at hj
  have hu : us[l.ord]? = some (us[l.ord]'hj) := List.getElem?_eq_getElem hj
  generalize us[l.ord]'hj = u at hu
  have h2 := encU_get us [] l.ord u hu
  rw [he] at h2
  have hm := List.mem_of_getElem? hk
  exact ⟨us, u, by rw [show l.track = l.track - 1 + 1 by omega, uAt, List.getD_eq_getElem?_getD, hk]; rfl, hu, Option.some.inj h2, prevC_len (h.ok us hm) (by simp) _, h.ok us hm u (List.mem_of_getElem? hu), hm⟩
/-- what the reader's own cells hold -/
structure RU (F : Fl) (uss : List (List Un)) (i : Nat) (G H : Hp) (du : Addr) (es : List (Nat × Addr)) : Prop where
  gd : G du = none
  hd : H du = some (.dK (udK es))
  ndk : (es.map (·.1)).Nodup
  nda : (es.map (·.2)).Nodup
  cell : ∀ e ∈ es, G e.2 = none ∧ ∃ vs, H e.2 = some (.lst vs) ∧ RpL G vs ((duU uss F i e.1).map UnD)
  cov : ∀ t, trk t (F.us.take i) ≠ [] → t ∈ es.map (·.1)
structure RD (K : PySem.W.Frag) (F : Fl) (uss : List (List Un)) (n : Nat) (G H : Hp) (r rdx o dx d p : Addr) (hv tv ev uv : V) (cs : List Addr) (du : Addr) (es : List (Nat × Addr)) (g : Int) : Prop where
  ob : H r = some (rdO K rdx o du g (-1))
  go : G r = none
  lr : LR K F n G H o dx d p hv tv ev uv cs
  ru : RU F uss (n - (pre F).length) G H du es
  ndp : du ≠ p
  dis : ∀ e ∈ es, e.2 ∉ cs
  len : es.length ≤ n - (pre F).length
theorem RU.mono {F : Fl} {uss : List (List Un)} {i : Nat} {G H G' H' : Hp} {du : Addr} {es : List (Nat × Addr)} (ru : RU F uss i G H du es) {M : Addr → Prop} (B : Adv M G H G' H') (h1 : ¬ M du) (h2 : ∀ e ∈ es, ¬ M e.2) : RU F uss i G' H' du es := by
  refine ⟨B.nw du ru.gd (by rw [ru.hd]; exact fun z => nomatch z), B.kp du _ h1 ru.hd, ru.ndk, ru.nda, fun e he => ?_, ru.cov⟩
  obtain ⟨g, vs, h, rl⟩ := ru.cell e he
  exact ⟨B.nw _ g (by rw [h]; exact fun z => nomatch z), vs, B.kp _ _ (h2 e he) h, rl.mono B.gg⟩
theorem nodup_map_inj {α β : Type} {f : α → β} : ∀ {l : List α}, (l.map f).Nodup → ∀ x ∈ l, ∀ y ∈ l, f x = f y → x = y
  | [], _, _, h, _, _, _ => nomatch h
  | a :: l, nd, x, hx, y, hy, e => by
    rw [List.map_cons, List.nodup_cons] at nd
    rcases List.mem_cons.mp hx with hx | hx
    · rcases List.mem_cons.mp hy with hy | hy
      · rw [hx, hy]
      · rw [hx] at e
        exact (nd.1 (List.mem_map.mpr ⟨y, hy, e.symm⟩)).elim
    · rcases List.mem_cons.mp hy with hy | hy
      · rw [hy] at e
        exact (nd.1 (List.mem_map.mpr ⟨x, hx, e⟩)).elim
      · exact nodup_map_inj nd.2 x hx y hy e
abbrev Mu (r o p : Addr) (cs : List Addr) (du : Addr) (es : List (Nat × Addr)) : Addr → Prop := fun q => q = r ∨ Mr o p cs q ∨ q = du ∨ q ∈ es.map (·.2)
section
variable {F : Fl} {uss : List (List Un)} {n : Nat} {G H : Hp} {r rdx o dx d p : Addr} {hv tv ev uv : V} {cs : List Addr} {du : Addr} {es : List (Nat × Addr)} {g : Int}
theorem LR.cs_lst (lr : LR K F n G H o dx d p hv tv ev uv cs) {c : Addr} (h : c ∈ cs) : ∃ vs, H c = some (.lst vs) := by
  obtain ⟨k, hk⟩ := List.mem_iff_getElem?.mp h
  obtain ⟨vs, _, hh, _⟩ := lr.ph.cell k c hk
  exact ⟨vs, hh⟩
theorem LR.p_dk (lr : LR K F n G H o dx d p hv tv ev uv cs) : ∃ kvs, H p = some (.dK kvs) := by
  obtain ⟨kvs, _, hh, _⟩ := lr.ph.dict
  exact ⟨kvs, hh⟩
theorem LR.not_du (lr : LR K F n G H o dx d p hv tv ev uv cs) {q : Addr} {kvs : List (Key × V)} (h : H q = some (.dK kvs)) (hp : q ≠ p) : ¬ Mr o p cs q := fun z => by
  rcases z with z | z | z
  · have := lr.ob
    rw [← z, h] at this
    cases this
  · exact hp z
  · obtain ⟨vs, hh⟩ := lr.cs_lst z
    rw [h] at hh
    cases hh
theorem LR.not_cell (lr : LR K F n G H o dx d p hv tv ev uv cs) {q : Addr} {vs : List V} (h : H q = some (.lst vs)) (hp : q ∉ cs) : ¬ Mr o p cs q := fun z => by
  rcases z with z | z | z
  · have := lr.ob
    rw [← z, h] at this
    cases this
  · obtain ⟨kvs, hh⟩ := lr.p_dk
    rw [← z, h] at hh
    cases hh
  · exact hp z
theorem LR.not_r (lr : LR K F n G H o dx d p hv tv ev uv cs) {q rdx : Addr} {g b : Int} (h : H q = some (rdO K rdx o du g b)) : ¬ Mr o p cs q := fun z => by
  rcases z with z | z | z
  · have := lr.ob
    rw [← z, h] at this
    have h2 := Option.some.inj this
    injection h2 with _ _ h3
    have := congrArg List.length h3
    simp at this
  · obtain ⟨kvs, hh⟩ := lr.p_dk
    rw [← z, h] at hh
    cases hh
  · obtain ⟨vs, hh⟩ := lr.cs_lst z
    rw [h] at hh
    cases hh
end
end
/-! w49 -/
section
variable {P : Program} {w : World} {K : PySem.W.Frag} {mg : Str → Option Value} {base : Heap}
theorem S_dsB {a : Addr} {y z : V} {H : Hp} {Q : VK} (J : V → Hp → Prop) (hJ : ∀ v H', J v H' → Q v H') (h : ∀ Q', (∀ v H', J v H' → Q' v H') → DsetR a y z H Q') : DsetR a y z H Q := h Q hJ
section
variable {F : Fl} {uss : List (List Un)} {n i : Nat} {M : Addr → Prop} {H0 G H G' H' : Hp} {r rdx o dx d p : Addr} {hv tv ev uv : V} {cs cs' : List Addr} {du : Addr} {es : List (Nat × Addr)} {g : Int}
theorem RU.cl_es (ru : RU F uss i G H du es) (hM : ∀ e ∈ es, M e.2 ∨ H0 e.2 = none) {e : Nat × Addr} (he : e ∈ es) : ∃ vs, Cl M H0 G H e.2 (.lst vs) ∧ RpL G vs ((duU uss F i e.1).map UnD) := by
  obtain ⟨h1, vs, h2, h3⟩ := ru.cell e he
  exact ⟨vs, ⟨hM e he, h1, h2⟩, h3⟩
theorem RU.step (ru : RU F uss i G H du es) (lr : LR K F n G H o dx d p hv tv ev uv cs) (ndp : du ≠ p) (dis : ∀ e ∈ es, e.2 ∉ cs) (hd : M du ∨ H0 du = none) (hM : ∀ e ∈ es, M e.2 ∨ H0 e.2 = none)
    (mm : ∀ x y, Cl M H0 G H x y → ¬ Mr o p cs x → Cl M H0 G' H' x y ∧ ¬ Mr o p cs' x) (gg : Same G G') : RU F uss i G' H' du es ∧ ∀ e ∈ es, e.2 ∉ cs' := by
  have cd := (mm du _ ⟨hd, ru.gd, ru.hd⟩ (lr.not_du ru.hd ndp)).1
  refine ⟨⟨cd.g, cd.h, ru.ndk, ru.nda, fun e he => ?_, ru.cov⟩, fun e he z => ?_⟩
  · obtain ⟨vs, c, rl⟩ := ru.cl_es hM he
    have c2 := (mm _ _ c (lr.not_cell c.h (dis e he))).1
    exact ⟨c2.g, vs, c2.h, rl.mono gg⟩
  · obtain ⟨vs, c, rl⟩ := ru.cl_es hM he
    exact (mm _ _ c (lr.not_cell c.h (dis e he))).2 (.inr (.inr z))
theorem RU.pass (ru : RU F uss (n - (pre F).length) G H du es) {l : Lf} (hl : (lsE F)[n]? = some l) (hk : l.kind ≠ 2) (fv : FV F) : RU F uss (n + 1 - (pre F).length) G H du es := by
  have e : F.us.take (n + 1 - (pre F).length) = F.us.take (n - (pre F).length) := by
    by_cases c : n < (pre F).length
    · rw [show n + 1 - (pre F).length = 0 by omega, show n - (pre F).length = 0 by omega]
    · by_cases c2 : n - (pre F).length < F.us.length
      · have hu := List.getElem?_eq_getElem c2
        have := lsE_us hu
        rw [show (pre F).length + (n - (pre F).length) = n by omega, hl] at this
        rw [Option.some.inj this] at hk
        exact absurd (fv.un _ _ hu).kind hk
      · rw [List.take_of_length_le (by omega), List.take_of_length_le (by omega)]
  refine ⟨ru.gd, ru.hd, ru.ndk, ru.nda, fun e' he => ?_, fun t h => ?_⟩
  · obtain ⟨h1, vs, h2, h3⟩ := ru.cell e' he
    refine ⟨h1, vs, h2, ?_⟩
    unfold duU at h3 ⊢
    rw [e]
    exact h3
  · rw [e] at h
    exact ru.cov t h
end
theorem unit_at {F : Fl} {k : Nat} {l : Lf} (hl : (lsE F)[k]? = some l) (h2 : l.kind = 2) : ∃ i, k = (pre F).length + i ∧ F.us[i]? = some l := by
  rcases lsE_cases hl with ⟨_, rfl⟩ | ⟨_, _, rfl⟩ | ⟨i, h1, hu⟩ | ⟨_, rfl⟩ | ⟨_, rfl⟩
  · cases h2
  · cases h2
  · exact ⟨i, h1, hu⟩
  · cases h2
  · cases h2
theorem atI_lastG {vs : List V} {j : Nat} {x : V} (hl : vs.length = j + 1) (h : vs[j]? = some x) : atI vs (-1) = some x := by
  have h1 : vs = vs.take j ++ [x] := by
    conv => lhs; rw [← List.take_append_drop j vs, drop_cons h, List.drop_of_length_le (by omega)]
  rw [h1]
  exact atI_last _ _
def sp_Reader__next_unit (K : PySem.W.Frag) : Sp := fun vs H Q _ => ∃ (F : Fl) (uss : List (List Un)) (n : Nat) (G : Hp) (r rdx o dx d p : Addr) (hv tv ev uv : V) (cs : List Addr) (du : Addr) (es : List (Nat × Addr)) (g : Int), Same G H ∧ vs = [.ref r] ∧ RdIn F uss ∧
  ((RD K F uss n G H r rdx o dx d p hv tv ev uv cs du es g ∧ n ≤ (lsE F).length ∧
    (∀ v G' H' n' hv' tv' ev' uv' cs' es', Adv (Mu r o p cs du es) G H G' H' → (∃ a, v = V.ref a) → n < n' → n' ≤ (lsE F).length → RD K F uss n' G' H' r rdx o dx d p hv' tv' ev' uv' cs' du es' g → (∀ q, Mu r o p cs' du es' q → Mu r o p cs du es q ∨ H q = none) → Q v H') ∧
    (∀ G' H' hv' tv' ev' uv' cs', Adv (Mu r o p cs du es) G H G' H' → RD K F uss (lsE F).length G' H' r rdx o dx d p hv' tv' ev' uv' cs' du es g → (∀ q, Mu r o p cs' du es q → Mu r o p cs du es q ∨ H q = none) → Q .non H')) ∨
   (H r = some (rdO K rdx o du g (-1)) ∧ G r = none ∧ LR K F (lsE F).length G H o dx d p hv tv ev uv cs ∧ Q .non H))
theorem sc_Reader__next_unit : FnScope n_Reader__next_unit p_Reader__next_unit (defScope s_Reader__next_unit) := ⟨rfl, rfl, rfl, by decide +kernel, rfl, by decide +kernel, by decide +kernel⟩
theorem ok_Reader__next_unit (T : Facts K mg) : FnOk P w K mg base CX0 9 (mA K "Reader" "_next_unit") (mD K "Reader" "_next_unit") p_Reader__next_unit (sp_Reader__next_unit K) := by
  refine T.Reader__next_unit.F.ok sc_Reader__next_unit (fun vs H Q E h => ?_) (fun cdv A outer s H vs Q E hr h => ?_)
  · obtain ⟨F, uss, n, G, r, rdx, o, dx, d, p, hv, tv, ev, uv, cs, du, es, g, _, rfl, _⟩ := h
    rfl
  · obtain ⟨F, uss, n, G, r, rdx, o, dx, d, p, hv, tv, ev, uv, cs, du, es, g, sG, rfl, ri, hcase⟩ := h
    refine ⟨_, PSs.nox (pss_cons (ps_if (pt_cmpR op_ge (pe_fld (pv 0) rfl) pe_int (nomark _))
    pss_never
    pss_nil)
  (pss_cons (ps_set (i := 1) sc_Reader__next_unit.nd rfl (.inl rfl) (pe_meth0 (pe_fld (pv 0) rfl) T.cl_LeafReader T.m_LeafReader_next_leaf (ok_LeafReader_next_leaf T) (hr.mono (by decide)) T.LeafReader_next_leaf.b .nil pass0))
  (pss_cons (ps_while PassesOwn.never (PW.pt (pw_and (pt_cmpR op_notN (pv 1) pe_non (nomark _)) (pw_and1 (pt_cmpR op_ne (pe_ix ix_tup (pv 1) pe_int (fun _ _ => rfl)) (pe_gi rfl T.g_UNIT) (nomark _)))))
    (pss_one (ps_set (i := 1) sc_Reader__next_unit.nd rfl (.inl rfl) (pe_meth0 (pe_fld (pv 0) rfl) T.cl_LeafReader T.m_LeafReader_next_leaf (ok_LeafReader_next_leaf T) (hr.mono (by decide)) T.LeafReader_next_leaf.b .nil pass0))))
  (pss_cons (ps_if (pt_cmpR op_isN (pv 1) pe_non (nomark _))
    (pss_one (ps_ret pe_non))
    pss_nil)
  (pss_cons (ps_asg (pv 1) (pg_tup rfl (pgs_cons (pg_name (i := 2) sc_Reader__next_unit.nd rfl (.inl rfl)) (pgs_cons (pg_name (i := 2) sc_Reader__next_unit.nd rfl (.inl rfl)) (pgs_cons (pg_name (i := 3) sc_Reader__next_unit.nd rfl (.inl rfl)) (pgs_cons (pg_name (i := 4) sc_Reader__next_unit.nd rfl (.inl rfl)) (pgs_cons (pg_name (i := 2) sc_Reader__next_unit.nd rfl (.inl rfl)) (pgs_cons (pg_name (i := 5) sc_Reader__next_unit.nd rfl (.inl rfl)) (pgs_cons (pg_name (i := 6) sc_Reader__next_unit.nd rfl (.inl rfl)) (pgs_cons (pg_name (i := 7) sc_Reader__next_unit.nd rfl (.inl rfl)) (pgs_cons (pg_name (i := 8) sc_Reader__next_unit.nd rfl (.inl rfl)) pgs_nil)))))))))))
  (pss_cons (ps_set (i := 9) sc_Reader__next_unit.nd rfl (.inl rfl) (pe_dsetd (pe_fld (pv 0) rfl) (pv 4) (pe_lst pa_nil) ⟨rfl, rfl, rfl, rfl⟩))
  (pss_cons (ps_set (i := 10) sc_Reader__next_unit.nd rfl (.inl rfl) pe_non)
  (pss_cons (ps_if (pt_cmpR op_eq (pv 7) pe_int (nomark _))
    (pss_one (ps_set (i := 10) sc_Reader__next_unit.nd rfl (.inl rfl) (pe_ix ix_tup (pe_ix ix_list (pv 9) (pe_un un_neg pe_int) (fun _ _ => rfl)) pe_int (fun _ _ => rfl))))
    pss_nil)
  (pss_cons (ps_try_thru0 (pss_one (ps_set (i := 11) sc_Reader__next_unit.nd rfl (.inl rfl) (pe_call (ok_read_content T) (hr.mono (by decide)) (by rfl) T.read_content.g T.read_content.kp T.read_content.b .nil pass0 (pa_cons (pv 8) (pa_cons (pv 10) pa_nil))))))
  (pss_cons (ps_expr (pe_bm PySem.F.plainAttrs_list PySem.F.slot_list_append PySem.F.type_list_append mt_append (pv 9) (pa_cons (pe_tup (pa_cons (pv 5) (pa_cons (pv 6) (pa_cons (pv 11) (pa_cons (pe_cmpR op_eq (pv 7) pe_int (nomark _)) pa_nil))))) pa_nil)))
  (pss_one (ps_ret (pe_tup (pa_cons (pv 4) (pa_cons (pe_tup (pa_cons (pv 5) (pa_cons (pv 6) (pa_cons (pe_callTy call_listN rfl T.z_list bi_list (pa_cons (pv 11) pa_nil)) (pa_cons (pe_cmpR op_eq (pv 7) pe_int (nomark _)) pa_nil))))) pa_nil))))))))))))))), ?_⟩
    have fv := ri.fv
    rcases hcase with ⟨rd, hn, q1, q2⟩ | ⟨hrd, gr, lr, q⟩
    rotate_left
    · have cr : Cl (fun _ => True) H G H r _ := ⟨.inl trivial, gr, hrd⟩
      walk_at "sp"
      refine S_me lr.ob rfl ?_
      refine lr_next (M := Mr o p cs) (E := E0) fv (.refl sG) lr (fun q hq => .inl hq) (Nat.le_refl _) (fun l hl => ?_) (fun _ => ?_)
      · have := (List.getElem?_eq_some_iff.mp hl).1
        omega
      · walk_at "sp"
        refine ⟨fun m σ H1 => σ = [some (.ref r), some .non, none, none, none, none, none, none, none, none, none, none] ∧ H = H1, ⟨0, rfl, rfl⟩, ?_⟩
        rintro m σ H1 ⟨rfl, rfl⟩
        walk_at "sp"
        exact q
    · generalize hMM : Mu r o p cs du es = M at q1 q2
      have hMr : M r := by rw [← hMM]; exact .inl rfl
      have hMo : ∀ q, Mr o p cs q → M q := fun q hq => by rw [← hMM]; exact .inr (.inl hq)
      have hMd : M du := by rw [← hMM]; exact .inr (.inr (.inl rfl))
      have hMe : ∀ e ∈ es, M e.2 := fun e he => by rw [← hMM]; exact .inr (.inr (.inr (List.mem_map.mpr ⟨e, he, rfl⟩)))
      have A : Adv M G H G H := .refl sG
      have cr : Cl M H G H r _ := ⟨.inl hMr, rd.go, rd.ob⟩
      have lr := rd.lr
      have hN := lsE_len F
      walk_at "sp"
      refine S_me lr.ob rfl ?_
      have body : ∀ (k : Nat) (cs1 : List Addr) (hv1 tv1 ev1 uv1 : V) (G1 H1 : Hp) (Q2 : VK), Adv M G H G1 H1 → LR K F k G1 H1 o dx d p hv1 tv1 ev1 uv1 cs1 → (∀ q, Mr o p cs1 q → M q ∨ H q = none) → k ≤ (lsE F).length → n ≤ k → Cl M H G1 H1 r (rdO K rdx o du g (-1)) → RU F uss (k - (pre F).length) G1 H1 du es → (∀ e ∈ es, e.2 ∉ cs1) →
          (∀ x H2, (∃ (k2 m : Nat) (hv2 tv2 ev2 uv2 : V) (cs2 : List Addr) (G2 : Hp), k ≤ k2 ∧ m ≤ (lsE F).length - k ∧ Adv M G H G2 H2 ∧ (∀ q, Mr o p cs2 q → M q ∨ H q = none) ∧ Cl M H G2 H2 r (rdO K rdx o du g (-1)) ∧ RU F uss (k2 - (pre F).length) G2 H2 du es ∧ (∀ e ∈ es, e.2 ∉ cs2) ∧
            ((∃ l, (lsE F)[k2]? = some l ∧ Rp G2 x (LfD l) ∧ LR K F (k2 + 1) G2 H2 o dx d p hv2 tv2 ev2 uv2 cs2 ∧ m = (lsE F).length - k2) ∨ (x = .non ∧ LR K F k2 G2 H2 o dx d p hv2 tv2 ev2 uv2 cs2 ∧ k2 = (lsE F).length ∧ m = 0))) → Q2 x H2) → sp_LeafReader_next_leaf K [.ref o] H1 Q2 E0 := fun k cs1 hv1 tv1 ev1 uv1 G1 H1 Q2 A1 lr1 fr1 hk hnk cr1 ru1 dis1 hq => by
        refine lr_next fv A1 lr1 fr1 hk (fun l hl v G2 H2 hv2 tv2 ev2 uv2 cs2 A2 g12 rv lr2 fr2 mm => ?_) (fun z => ?_)
        · obtain ⟨cr2, _⟩ := mm _ _ cr1 (lr1.not_r cr1.h)
          obtain ⟨ru2, dis2⟩ := ru1.step lr1 rd.ndp dis1 (.inl hMd) (fun e he => .inl (hMe e he)) mm g12
          exact hq v H2 ⟨k, (lsE F).length - k, hv2, tv2, ev2, uv2, cs2, G2, Nat.le_refl _, Nat.le_refl _, A2, fr2, cr2, ru2, dis2, .inl ⟨l, hl, rv, lr2, rfl⟩⟩
        · exact hq .non H1 ⟨k, 0, hv1, tv1, ev1, uv1, cs1, G1, Nat.le_refl _, Nat.zero_le _, A1, fr1, cr1, ru1, dis1, .inr ⟨rfl, lr1, z, rfl⟩⟩
      refine body n cs hv tv ev uv G H _ A lr (fun q hq => .inl (hMo q hq)) hn (Nat.le_refl _) cr rd.ru rd.dis fun x H1 ⟨k1, m1, hv1, tv1, ev1, uv1, cs1, G1, hk1, hm1, A1, fr1, cr1, ru1, dis1, hc1⟩ => ?_
      walk_at "sp"
      refine ⟨fun m σ H2 => ∃ (x : V) (k2 m2 : Nat) (hv2 tv2 ev2 uv2 : V) (cs2 : List Addr) (G2 : Hp), σ = [some (.ref r), some x, none, none, none, none, none, none, none, none, none, none] ∧ m = m2 + (match x with | .non => 0 | _ => 1) ∧ n ≤ k2 ∧ Adv M G H G2 H2 ∧ (∀ q, Mr o p cs2 q → M q ∨ H q = none) ∧ Cl M H G2 H2 r (rdO K rdx o du g (-1)) ∧ RU F uss (k2 - (pre F).length) G2 H2 du es ∧ (∀ e ∈ es, e.2 ∉ cs2) ∧
            ((∃ l, (lsE F)[k2]? = some l ∧ Rp G2 x (LfD l) ∧ LR K F (k2 + 1) G2 H2 o dx d p hv2 tv2 ev2 uv2 cs2 ∧ m2 = (lsE F).length - k2) ∨ (x = .non ∧ LR K F k2 G2 H2 o dx d p hv2 tv2 ev2 uv2 cs2 ∧ k2 = (lsE F).length ∧ m2 = 0)),
        ⟨_, x, k1, m1, hv1, tv1, ev1, uv1, cs1, G1, rfl, rfl, hk1, A1, fr1, cr1, ru1, dis1, hc1⟩, ?_⟩
      rintro m σ H2 ⟨x, k2, m2, hv2, tv2, ev2, uv2, cs2, G2, rfl, rfl, hk2, A2, fr2, cr2, ru2, dis2, hc2⟩
      rcases hc2 with ⟨l, hl, rx, lr2, rfl⟩ | ⟨rfl, lr2, rfl, rfl⟩
      · have hkN := (List.getElem?_eq_some_iff.mp hl).1
        obtain ⟨a, b, rfl, ha, hb⟩ := rx.lf
        by_cases hu : l.kind = 2
        · obtain ⟨i, rfl, hui⟩ := unit_at hl hu
          rw [Nat.add_sub_cancel_left] at ru2
          obtain ⟨us, u, hus, huj, hmv, hpl, hul, husm⟩ := ri.leaf hui
          have uv := fv.un i l hui
          have e1 : l.time = u.time := congrArg Mv.time hmv
          have e2 : l.span = u.span := congrArg Mv.span hmv
          have e3 : l.key = if u.leans = true then 0 else 1 := congrArg Mv.key hmv
          have e4 : l.body = encB (prevC [] us l.ord) u := congrArg Mv.body hmv
          have hab := And.intro ha hb
          clear ha hb
          walk_at "sp"
          refine S_ixT (qt A2.gh hab.1) rfl ?_
          walk_at "sp"
          refine S_gtup (qt A2.gh hab.1) rfl ?_
          repeat (with_reducible first | refine S_gcons ?_ | refine S_gnil ?_ | refine S_name ?_)
          refine S_st (σ' := [some (.ref r), some (.ref a), some (.int l.ord), some (.int l.num), some (.int l.track), some (.int l.time), some (.int l.span), some (.int l.key), some (.ref b), none, none, none]) rfl ?_
          walk_at "sp"
          refine S_isd ru2.hd ?_
          walk_at "sp"
          refine ⟨Nat.zero_le _, S_newM (M := No) (G0 := G2) (H0 := H2) (.refl A2.gh) fun z H3 B3 cz fz _ => ?_⟩
          have les := rd.len
          have lus := fv.usL
          have hil := (List.getElem?_eq_some_iff.mp hui).1
          have A3 := A2.call B3
          have lr3 := lr2.mono B3 fun _ _ z => z
          have cr3 := cr2.call B3
          have ru3 := ru2.mono B3 (fun z => z) fun _ _ z => z
          refine S_dsB (fun v H4 => ∃ (c : Addr) (es2 : List (Nat × Addr)) (vs : List V), v = .ref c ∧ Adv M G H G2 H4 ∧ LR K F ((pre F).length + i + 1) G2 H4 o dx d p hv2 tv2 ev2 uv2 cs2 ∧ Cl M H G2 H4 r (rdO K rdx o du g (-1)) ∧ RU F uss i G2 H4 du es2 ∧ (l.track, c) ∈ es2 ∧ (∀ e ∈ es2, e.2 ∉ cs2) ∧ (∀ e ∈ es2, M e.2 ∨ H e.2 = none) ∧ es2.length ≤ i + 1) ?_ fun Q' hQ' => ?_
          rotate_left
          · refine ⟨udK es, .inl (l.track : Int), ru3.hd, rfl, line_lt (by rw [udK, List.length_map]; omega), fun v hv => ?_, fun hv => ?_⟩
            · by_cases ht : l.track ∈ es.map (·.1)
              · obtain ⟨⟨t, c⟩, hc, e5⟩ := List.mem_map.mp ht
                obtain rfl : t = l.track := e5
                rw [udK_some ru3.ndk hc] at hv
                cases hv
                exact hQ' _ _ ⟨c, es, [], rfl, A3, lr3, cr3, ru3, hc, dis2, fun e he => .inl (hMe e he), by omega⟩
              · rw [udK_none ht] at hv
                cases hv
            · have ht : l.track ∉ es.map (·.1) := fun ht => by
                obtain ⟨⟨t, c⟩, hc, e5⟩ := List.mem_map.mp ht
                obtain rfl : t = l.track := e5
                rw [udK_some ru3.ndk hc] at hv
                cases hv
              rw [udK_put hv]
              have BL : Adv (· = du) G2 H3 G2 (upd H3 du (.dK (udK (es ++ [(l.track, z)])))) := (Adv.refl A3.gh).wr ru3.gd (.inl rfl)
              have nzd : z ≠ du := fun e => by
                have := cz.h
                rw [e, ru3.hd] at this
                cases this
              have nrd : r ≠ du := fun e => by
                have := cr3.h
                rw [e, ru3.hd] at this
                cases this
              have hz : H3 z = some (.lst []) := cz.h
              have tnil : trk l.track (F.us.take i) = [] := Classical.byContradiction fun h => ht (ru3.cov _ h)
              refine hQ' _ _ ⟨z, es ++ [(l.track, z)], [], rfl, A3.trans BL (fun q e => .inl (e ▸ hMd)), lr3.mono BL (fun q hq e => lr3.not_du ru3.hd rd.ndp (e ▸ hq)), cr3.callM BL nrd, ⟨ru3.gd, upd_same, ?_, ?_, fun e he => ?_, fun t h => ?_⟩, List.mem_append_right _ (List.mem_singleton.mpr rfl), fun e he => ?_, fun e he => ?_, ?_⟩
              · rw [List.map_append, List.nodup_append]
                refine ⟨ru3.ndk, by simp, fun x hx y hy e => ?_⟩
                have : y = l.track := List.mem_singleton.mp hy
                rw [e, this] at hx
                exact ht hx
              · rw [List.map_append, List.nodup_append]
                refine ⟨ru3.nda, by simp, fun x hx y hy e => ?_⟩
                have : y = z := List.mem_singleton.mp hy
                obtain ⟨e5, he5, rfl⟩ := List.mem_map.mp hx
                obtain ⟨_, vs, hh, _⟩ := ru2.cell e5 he5
                rw [e, this, fz] at hh
                cases hh
              · rcases List.mem_append.mp he with he | he
                · obtain ⟨gg, vs, hh, rl⟩ := ru3.cell e he
                  refine ⟨gg, vs, ?_, rl⟩
                  rw [upd_ne (fun e5 => by rw [e5, ru3.hd] at hh; cases hh)]
                  exact hh
                · rw [List.mem_singleton.mp he]
                  refine ⟨cz.g, [], by rw [upd_ne nzd]; exact hz, ?_⟩
                  rw [duU, tnil]
                  exact .nil
              · rw [List.map_append]
                exact List.mem_append_left _ (ru3.cov t h)
              · rcases List.mem_append.mp he with he | he
                · exact dis2 e he
                · rw [List.mem_singleton.mp he]
                  intro hzc
                  obtain ⟨vs, hh⟩ := lr2.cs_lst hzc
                  rw [fz] at hh
                  cases hh
              · rcases List.mem_append.mp he with he | he
                · exact .inl (hMe e he)
                · rw [List.mem_singleton.mp he]
                  exact .inr (A2.fresh fz)
              · rw [List.length_append]
                show es.length + 1 ≤ i + 1
                omega
          · rintro v H4 ⟨c, es2, vs, rfl, A4, lr4, cr4, ru4, hc4, dis4, fr4, len4⟩
            obtain ⟨gc, vs, hvs, rvs⟩ := ru4.cell _ hc4
            rw [show duU uss F i (l.track, c).1 = us.take l.ord by rw [duU, hus, uv.ord]] at rvs
            have huj1 := (List.getElem?_eq_some_iff.mp huj).1
            have lvs := rvs.len
            rw [List.length_map, List.length_take, Nat.min_eq_left (by omega)] at lvs
            refine S_name ?_
            refine S_seq (S_asg (S_c (S_name ?_)))
            refine S_seq (S_both (fun σ H5 => ∃ bv, σ = [some (.ref r), some (.ref a), some (.int l.ord), some (.int l.num), some (.int l.track), some (.int l.time), some (.int l.span), some (.int l.key), some (.ref b), some (.ref c), some bv, none] ∧ H4 = H5 ∧ (u.leans = false ∧ bv = .non ∨ u.leans = true ∧ Rp G2 bv (IntsD (prevC [] us l.ord)))) ?_ fun nx hnx => ?_)
            rotate_left
            · cases hle : u.leans with
              | false =>
                rw [hle] at e3
                have e3' : l.key = 1 := e3
                walk_at "sp"
                exact hnx _ _ ⟨.non, rfl, rfl, .inl ⟨hle, rfl⟩⟩
              | true =>
                rw [hle] at e3
                have e3' : l.key = 0 := e3
                obtain ⟨j, hj⟩ : ∃ j, l.ord = j + 1 := ⟨l.ord - 1, by
                  have : l.ord ≠ 0 := fun z => by have := uv.key z; omega
                  omega⟩
                rw [hj] at rvs lvs
                have hwj : us[j]? = some (us[j]'(by omega)) := List.getElem?_eq_getElem (by omega)
                generalize us[j]'(by omega) = w at hwj
                obtain ⟨x, hx, rx5⟩ := rvs.get (d := UnD w) (i := j) (by rw [List.getElem?_map, List.getElem?_take_of_lt (by omega), hwj]; rfl)
                obtain ⟨e5, f5, rfl, he5, hf5⟩ := rx5.un
                have hpc : prevC [] us l.ord = w.content := by rw [hj, prevC, hwj]
                walk_at "sp"
                refine S_ixL (SqL.of hvs) (atI_lastG lvs hx) ?_
                walk_at "sp"
                refine hnx _ _ ⟨.ref f5, rfl, rfl, .inr ⟨hle, ?_⟩⟩
                rw [hpc]
                exact rp_ints hf5
            · rintro σ H5 ⟨bv, rfl, rfl, hbv⟩
              walk_at "sp"
              refine ⟨G2, .ref b, bv, u, prevC [] us l.ord, A4.gh, rfl, by rw [← e4]; exact rp_ints hab.2, hbv, hul, hpl, S_postI (M := No) (G0 := G2) (H0 := H4) (.refl A4.gh) fun p5 G5 H5 _ B5 hp5 => ?_⟩
              have A5 := A4.call B5
              have lr5 := lr4.mono B5 fun _ _ z => z
              have cr5 := cr4.call B5
              have ru5 := ru4.mono B5 (fun z => z) fun _ _ z => z
              have cl5 : Cl (fun _ => True) H G5 H5 c (.lst vs) := ⟨.inl trivial, (ru5.cell _ hc4).1, B5.kp _ _ (fun z => z) hvs⟩
              walk_at "sp"
              refine ⟨line_le (by simp), S_newF (M := No) (G0 := G5) (H0 := H5) (.refl A5.gh) fun p6 G6 H6 B6 g6 hp6 _ => ?_⟩
              have A6 := A5.call B6
              have lr6 := lr5.mono B6 fun _ _ z => z
              have cr6 := cr5.call B6
              have ru6 := ru5.mono B6 (fun z => z) fun _ _ z => z
              have g46 := B5.gg.trans g6
              have hc6 : H6 c = some (.lst vs) := B6.kp _ _ (fun z => z) (B5.kp _ _ (fun z => z) hvs)
              have gc6 := (ru6.cell _ hc4).1
              have AL : Adv (· = c) G6 H6 G6 H6 := .refl A6.gh
              have cL : Cl (· = c) H6 G6 H6 c (.lst vs) := ⟨.inl rfl, gc6, hc6⟩
              have ekey : decide ((l.key : Int) = 0) = u.leans := by
                rw [e3]
                cases u.leans <;> rfl
              have huD : Rp G6 (.ref p6) (UnD u) := by
                refine .tup hp6 (.cons ?_ (.cons ?_ (.cons (rp_ints (g6 _ _ hp5)) (.cons ?_ .nil))))
                · rw [e1]
                  exact .int _
                · rw [e2]
                  exact .int _
                · rw [ekey]
                  exact .bl _
              walk_at "sp"
              refine S_app' AL cL (by have := uv.ok.ord; omega) fun H7 B7 c7 _ => ?_
              have A7 := A6.trans B7 fun q e => by subst e; exact fr4 _ hc4
              have nrc : r ≠ c := fun e => by
                have := cr6.h
                rw [e, hc6] at this
                cases this
              have ndc : du ≠ c := fun e => by
                have := ru6.hd
                rw [e, hc6] at this
                cases this
              have lr7 := lr6.mono B7 fun q hq e => lr6.not_cell hc6 (dis4 _ hc4) (e ▸ hq)
              have cr7 := cr6.callM B7 nrc
              have ru7 : RU F uss (i + 1) G6 H7 du es2 := by
                refine ⟨ru6.gd, B7.kp du _ ndc ru6.hd, ru6.ndk, ru6.nda, fun e he => ?_, fun t h => ?_⟩
                · by_cases ec : e.2 = c
                  · have : e = (l.track, c) := nodup_map_inj ru6.nda e he _ hc4 ec
                    subst this
                    refine ⟨gc6, _, c7.h, ?_⟩
                    have ed : duU uss F (i + 1) l.track = us.take (l.ord + 1) := by
                      rw [duU, hus, trk_split hui, if_pos rfl, List.length_append, ← uv.ord]
                      rfl
                    show RpL G6 _ ((duU uss F (i + 1) l.track).map UnD)
                    rw [ed, take_snoc huj, List.map_append]
                    exact (rvs.mono g46).snoc huD
                  · obtain ⟨ge, ws, he7, rl7⟩ := ru6.cell e he
                    refine ⟨ge, ws, B7.kp _ _ ec he7, ?_⟩
                    have net : l.track ≠ e.1 := fun z => ec (by rw [nodup_map_inj ru6.ndk e he _ hc4 z.symm])
                    rw [duU, trk_split hui, if_neg net, List.append_nil]
                    exact rl7
                · by_cases et : l.track = t
                  · exact et ▸ List.mem_map.mpr ⟨_, hc4, rfl⟩
                  · rw [trk_split hui, if_neg et, List.append_nil] at h
                    exact ru6.cov t h
              walk_at "sp"
              refine S_listL (ql A7.gh (g6 _ _ hp5)) (S_newF (M := No) (G0 := G6) (H0 := H7) (.refl A7.gh) fun p8 G8 H8 B8 g8 hp8 _ => ?_)
              walk_at "sp"
              refine ⟨line_le (by simp), S_newF B8 fun p9 G9 H9 B9 g9 hp9 _ => ?_⟩
              walk_at "sp"
              refine ⟨line_le (by simp), S_newF B9 fun p10 G10 H10 B10 g10 hp10 _ => ?_⟩
              have cr10 := cr7.call B10
              refine q1 _ G10 H10 ((pre F).length + i + 1) hv2 tv2 ev2 uv2 cs2 es2 (A7.call B10) ⟨_, rfl⟩ (by omega) (by omega) ⟨cr10.h, cr10.g, lr7.mono B10 fun _ _ z => z, ?_, rd.ndp, dis4, by omega⟩ fun q hq => ?_
              · rw [show (pre F).length + i + 1 - (pre F).length = i + 1 by omega]
                exact ru7.mono B10 (fun z => z) fun _ _ z => z
              · rcases hq with rfl | hq | rfl | hq
                · exact .inl hMr
                · exact fr2 q hq
                · exact .inl hMd
                · obtain ⟨e, he, rfl⟩ := List.mem_map.mp hq
                  exact fr4 e he
        · walk_at "sp"
          refine ⟨fun σ' H' => _, fun σ' H' z => z, ?_⟩
          walk_at "sp"
          refine S_me lr2.ob rfl ?_
          refine body (k2 + 1) cs2 hv2 tv2 ev2 uv2 G2 H2 _ A2 lr2 fr2 (by omega) (by omega) cr2 (ru2.pass hl hu fv) dis2 fun x H3 ⟨k3, m3, hv3, tv3, ev3, uv3, cs3, G3, hk3, hm3, A3, fr3, cr3, ru3, dis3, hc3⟩ => ?_
          walk_at "sp"
          refine ⟨_, ?_, x, k3, m3, hv3, tv3, ev3, uv3, cs3, G3, rfl, rfl, by omega, A3, fr3, cr3, ru3, dis3, hc3⟩
          show m3 + _ < (lsE F).length - k2 + 1
          split <;> omega
      · walk_at "sp"
        refine q2 G2 H2 hv2 tv2 ev2 uv2 cs2 A2 ⟨cr2.h, cr2.g, lr2, ru2, rd.ndp, dis2, by have := rd.len; omega⟩ fun q hq => ?_
        rcases hq with rfl | hq | rfl | hq
        · exact .inl hMr
        · exact fr2 q hq
        · exact .inl hMd
        · obtain ⟨e, he, rfl⟩ := List.mem_map.mp hq
          exact .inl (hMe e he)
end
/-! w50 -/
section
variable {P : Program} {w : World} {K : PySem.W.Frag} {mg : Str → Option Value} {base : Heap}
theorem sc_Reader__later_unit : FnScope n_Reader__later_unit p_Reader__later_unit (defScope s_Reader__later_unit) := ⟨rfl, rfl, rfl, by decide +kernel, rfl, by decide +kernel, by decide +kernel⟩
theorem ok_Reader__later_unit (T : Facts K mg) : FnOk P w K mg base CX0 10 (mA K "Reader" "_later_unit") (mD K "Reader" "_later_unit") p_Reader__later_unit (sp_Reader__next_unit K) := by
  refine T.Reader__later_unit.F.ok sc_Reader__later_unit (fun vs H Q E h => ?_) (fun cdv A outer s H vs Q E hr h => ?_)
  · obtain ⟨F, uss, n, G, r, rdx, o, dx, d, p, hv, tv, ev, uv, cs, du, es, g, _, rfl, _⟩ := h
    rfl
  · have h0 := h
    obtain ⟨F, uss, n, G, r, rdx, o, dx, d, p, hv, tv, ev, uv, cs, du, es, g, sG, rfl, ri, hcase⟩ := h
    have hob : H r = some (rdO K rdx o du g (-1)) := hcase.elim (fun h => h.1.ob) fun h => h.1
    refine ⟨_, PSs.nox (pss_one (ps_try_thru0 (pss_one (ps_ret (pe_meth0 (pv 0) T.cl_Reader T.m_Reader__next_unit (ok_Reader__next_unit T) (hr.mono (by decide)) T.Reader__next_unit.b .nil pass0))))), ?_⟩
    walk_at "sp"
    refine S_me hob rfl ?_
    exact h0
section
variable {F : Fl} {uss : List (List Un)} {n : Nat} {G H G' H' : Hp} {r rdx o dx d p : Addr} {hv tv ev uv : V} {cs : List Addr} {du : Addr} {es : List (Nat × Addr)} {g : Int}
theorem RD.mono (rd : RD K F uss n G H r rdx o dx d p hv tv ev uv cs du es g) {M : Addr → Prop} (A : Adv M G H G' H') (h : ∀ q, Mu r o p cs du es q → ¬ M q) : RD K F uss n G' H' r rdx o dx d p hv tv ev uv cs du es g :=
  ⟨A.kp r _ (h r (.inl rfl)) rd.ob, A.nw r rd.go (by rw [rd.ob]; exact fun z => nomatch z), rd.lr.mono A fun q hq => h q (.inr (.inl hq)), rd.ru.mono A (h du (.inr (.inr (.inl rfl)))) fun e he => h _ (.inr (.inr (.inr (List.mem_map.mpr ⟨e, he, rfl⟩)))), rd.ndp, rd.dis, rd.len⟩
theorem rd_next {M : Addr → Prop} {G0 H0 : Hp} {Q : VK} {E : XK} (ri : RdIn F uss) (A : Adv M G0 H0 G H) (rd : RD K F uss n G H r rdx o dx d p hv tv ev uv cs du es g) (fr : ∀ q, Mu r o p cs du es q → M q ∨ H0 q = none) (hn : n ≤ (lsE F).length)
    (q1 : ∀ v G' H' n' hv' tv' ev' uv' cs' es', Adv M G0 H0 G' H' → Same G G' → (∃ a, v = V.ref a) → n < n' → n' ≤ (lsE F).length → RD K F uss n' G' H' r rdx o dx d p hv' tv' ev' uv' cs' du es' g → (∀ q, Mu r o p cs' du es' q → M q ∨ H0 q = none) → (∀ x y, Cl M H0 G H x y → ¬ Mu r o p cs du es x → Cl M H0 G' H' x y ∧ ¬ Mu r o p cs' du es' x) → Q v H')
    (q2 : ∀ G' H' hv' tv' ev' uv' cs', Adv M G0 H0 G' H' → Same G G' → RD K F uss (lsE F).length G' H' r rdx o dx d p hv' tv' ev' uv' cs' du es g → (∀ q, Mu r o p cs' du es q → M q ∨ H0 q = none) → (∀ x y, Cl M H0 G H x y → ¬ Mu r o p cs du es x → Cl M H0 G' H' x y ∧ ¬ Mu r o p cs' du es x) → Q .non H') : sp_Reader__next_unit K [.ref r] H Q E := by
  have up : ∀ {es' cs'} {G' H' : Hp}, (∀ q, Mu r o p cs' du es' q → Mu r o p cs du es q ∨ H q = none) → (∀ q, Mu r o p cs' du es' q → M q ∨ H0 q = none) := fun h q hq => (h q hq).elim (fr q) fun z => .inr (A.fresh z)
  have un : ∀ {es' cs'} {G' H' : Hp}, Adv (Mu r o p cs du es) G H G' H' → (∀ q, Mu r o p cs' du es' q → Mu r o p cs du es q ∨ H q = none) → ∀ x y, Cl M H0 G H x y → ¬ Mu r o p cs du es x → Cl M H0 G' H' x y ∧ ¬ Mu r o p cs' du es' x := fun B h x y c nm => ⟨c.callM B nm, fun hq => (h x hq).elim nm fun z => by rw [c.h] at z; cases z⟩
  refine ⟨F, uss, n, G, r, rdx, o, dx, d, p, hv, tv, ev, uv, cs, du, es, g, A.gh, rfl, ri, .inl ⟨rd, hn, fun v G' H' n' hv' tv' ev' uv' cs' es' B hv h1 h2 rd' f' => ?_, fun G' H' hv' tv' ev' uv' cs' B rd' f' => ?_⟩⟩
  · exact q1 v G' H' n' hv' tv' ev' uv' cs' es' (A.trans B fr) B.gg hv h1 h2 rd' (up (G' := G') (H' := H') f') (un B f')
  · exact q2 G' H' hv' tv' ev' uv' cs' (A.trans B fr) B.gg rd' (up (G' := G') (H' := H') f') (un B f')
end
theorem same_upd {G H : Hp} {d : Addr} {u : HO} (s : Same G H) (h : H d = some u) : Same (upd G d u) H := fun b y e => by
  by_cases hb : b = d
  · subst hb
    rw [upd_same] at e
    rw [h]
    exact e
  · rw [upd_ne hb] at e
    exact s b y e
def sp_Reader_feed (K : PySem.W.Frag) : Sp := fun vs H Q _ => ∃ (F : Fl) (uss : List (List Un)) (G : Hp) (r rdx o dx d p : Addr) (hv tv ev uv rb : V) (du : Addr), Same G H ∧ vs = [.ref r, rb] ∧ Rp G rb (IntsD (fileB (lsE F))) ∧ RdIn F uss ∧ (H r = some (rdO K rdx o du 0 (-1)) ∧ G r = none) ∧ (H o = some (lrO K dx d 1 1 0 0 (-1) hv tv ev uv p) ∧ G o = none) ∧
  Rp G tv (.list []) ∧ Rp G ev (.list []) ∧ (H d = some (.lst []) ∧ G d = none) ∧ (H p = some (.dK []) ∧ G p = none) ∧ (H du = some (.dK []) ∧ G du = none) ∧ p ≠ du ∧
  ∀ H1, Adv (· = d) G H G H1 → H1 d = some (.lst ((fileB (lsE F)).map V.int)) → ∀ v G' H' hv' tv' ev' uv' cs' es' g, Adv (Mu r o p [] du []) (upd G d (.lst ((fileB (lsE F)).map V.int))) H1 G' H' → RD K F uss (lsE F).length G' H' r rdx o dx d p hv' tv' ev' uv' cs' du es' g → (∀ q, Mu r o p cs' du es' q → Mu r o p [] du [] q ∨ H1 q = none) → Q v H'
theorem sc_Reader_feed : FnScope n_Reader_feed p_Reader_feed (defScope s_Reader_feed) := ⟨rfl, rfl, rfl, by decide +kernel, rfl, by decide +kernel, by decide +kernel⟩
theorem ok_Reader_feed (T : Facts K mg) : FnOk P w K mg base CX0 11 (mA K "Reader" "feed") (mD K "Reader" "feed") p_Reader_feed (sp_Reader_feed K) := by
  refine T.Reader_feed.F.ok sc_Reader_feed (fun vs H Q E h => ?_) (fun cdv A outer s H vs Q E hr h => ?_)
  · obtain ⟨F, uss, G, r, rdx, o, dx, d, p, hv, tv, ev, uv, rb, du, _, rfl, _⟩ := h
    rfl
  · obtain ⟨F, uss, G, r, rdx, o, dx, d, p, hv, tv, ev, uv, rb, du, sG, rfl, hrb, ri, ⟨hr1, gr⟩, ⟨ho, go⟩, rt, re, ⟨hd, gd⟩, ⟨hp, gp⟩, ⟨hdu, gdu⟩, npd, q⟩ := h
    have fv := ri.fv
    have fl := file_len fv
    have fp := fileB_pos (lsE F)
    have hN := lsE_len F
    have lus := fv.usL
    have p1 := pre_le F
    refine ⟨_, PSs.nox (pss_cons (ps_expr (pe_meth (pe_fld (pv 0) rfl) T.cl_LeafReader T.m_LeafReader_extend (ok_LeafReader_extend T) (hr.mono (by decide)) T.LeafReader_extend.b .nil pass0 (pa_cons (pv 1) pa_nil)))
  (pss_cons (ps_set (i := 2) sc_Reader_feed.nd rfl (.inl rfl) (pe_lst pa_nil))
  (pss_cons (ps_set (i := 3) sc_Reader_feed.nd rfl (.inl rfl) (pe_meth0 (pv 0) T.cl_Reader T.m_Reader__next_unit (ok_Reader__next_unit T) (hr.mono (by decide)) T.Reader__next_unit.b .nil pass0))
  (pss_cons (ps_while PassesOwn.never (pt_cmpR op_notN (pv 3) pe_non (nomark _))
    (pss_cons (ps_expr (pe_bm PySem.F.plainAttrs_list PySem.F.slot_list_append PySem.F.type_list_append mt_append (pv 2) (pa_cons (pv 3) pa_nil)))
  (pss_one (ps_set (i := 3) sc_Reader_feed.nd rfl (.inl rfl) (pe_meth0 (pv 0) T.cl_Reader T.m_Reader__later_unit (ok_Reader__later_unit T) (hr.mono (by decide)) T.Reader__later_unit.b .nil pass0)))))
  (pss_cons (ps_fld (pv 0) (pe_op op_add (pe_fld (pv 0) rfl) (pe_callB call_len_seq rfl T.z_len bi_len (pa_cons (pv 2) pa_nil))) rfl)
  (pss_one (ps_ret (pv 2)))))))), ?_⟩
    have cr : Cl (fun _ => True) H G H r _ := ⟨.inl trivial, gr, hr1⟩
    walk_at "sp"
    refine S_me ho rfl ?_
    walk_at "sp"
    refine ⟨G, o, dx, d, 1, 1, 0, 0, -1, hv, tv, ev, uv, rb, p, fileB (lsE F), sG, rfl, ho, gd, hd, hrb, by omega, fun H1 B1 h1 => ?_⟩
    replace q := q H1 B1 h1
    generalize hG1 : upd G d (HO.lst ((fileB (lsE F)).map V.int)) = G1 at q
    generalize hMM : Mu r o p [] du [] = M at q
    have s1 : Same G1 H1 := by rw [← hG1]; exact same_upd B1.gh h1
    have g01 : Same G G1 := by rw [← hG1]; exact same_new gd
    have nrd : r ≠ d := fun e => by rw [e, hd] at hr1; cases hr1
    have nod : o ≠ d := fun e => by rw [e, hd] at ho; cases ho
    have npd' : p ≠ d := fun e => by rw [e, hd] at hp; cases hp
    have nud : du ≠ d := fun e => by rw [e, hd] at hdu; cases hdu
    have A1 : Adv M G1 H1 G1 H1 := .refl s1
    have cp1 : Cl M H1 G1 H1 p (.dK []) := ⟨.inl (by rw [← hMM]; exact .inr (.inl (.inr (.inl rfl)))), by rw [← hG1, upd_ne npd']; exact gp, B1.kp p _ npd' hp⟩
    have lr1 : LR K F 0 G1 H1 o dx d p hv tv ev uv [] := ⟨by rw [show off F 0 = 1 by simp [off, fileB]]; exact B1.kp o _ nod ho, by rw [← hG1, upd_ne nod]; exact go, by rw [← hG1]; exact upd_same, ph0 F (rt.mono g01) (re.mono g01) cp1, fun z => nomatch z⟩
    have rd1 : RD K F uss 0 G1 H1 r rdx o dx d p hv tv ev uv [] du [] 0 := ⟨B1.kp r _ nrd hr1, by rw [← hG1, upd_ne nrd]; exact gr, lr1, ⟨by rw [← hG1, upd_ne nud]; exact gdu, B1.kp du _ nud hdu, List.nodup_nil, List.nodup_nil, fun _ z => (nomatch z), fun t h => absurd (by simp [trk]) h⟩, npd.symm, fun _ z => (nomatch z), Nat.zero_le _⟩
    have fr1 : ∀ q, Mu r o p [] du [] q → M q ∨ H1 q = none := fun q hq => .inl (hMM ▸ hq)
    walk_at "sp"
    refine ⟨Nat.zero_le _, S_newM (M := No) (G0 := G1) (H0 := H1) (.refl s1) fun lv H2 B2 cl flv _ => ?_⟩
    have A2 := A1.call B2
    have rd2 := rd1.mono B2 fun _ _ z => z
    have cl2 : Cl M H1 G1 H2 lv (.lst []) := ⟨.inr flv, cl.g, cl.h⟩
    have nlv : ¬ Mu r o p [] du [] lv := fun hq => by
      rcases hq with h | (h | h | h) | h | h
      · rw [h, rd1.ob] at flv
        cases flv
      · rw [h, lr1.ob] at flv
        cases flv
      · rw [h, cp1.h] at flv
        cases flv
      · cases h
      · rw [h, rd1.ru.hd] at flv
        cases flv
      · cases h
    have body : ∀ (n : Nat) (hv2 tv2 ev2 uv2 : V) (cs2 : List Addr) (es2 : List (Nat × Addr)) (G2 H2 : Hp) (vs : List V) (Q2 : VK), Adv M G1 H1 G2 H2 → RD K F uss n G2 H2 r rdx o dx d p hv2 tv2 ev2 uv2 cs2 du es2 0 → (∀ q, Mu r o p cs2 du es2 q → M q ∨ H1 q = none) → Cl M H1 G2 H2 lv (.lst vs) → ¬ Mu r o p cs2 du es2 lv → n ≤ (lsE F).length → vs.length ≤ n →
        (∀ x H3, (∃ (n3 : Nat) (hv3 tv3 ev3 uv3 : V) (cs3 : List Addr) (es3 : List (Nat × Addr)) (G3 : Hp), n ≤ n3 ∧ Adv M G1 H1 G3 H3 ∧ RD K F uss n3 G3 H3 r rdx o dx d p hv3 tv3 ev3 uv3 cs3 du es3 0 ∧ (∀ q, Mu r o p cs3 du es3 q → M q ∨ H1 q = none) ∧ Cl M H1 G3 H3 lv (.lst vs) ∧ ¬ Mu r o p cs3 du es3 lv ∧ n3 ≤ (lsE F).length ∧
          ((∃ a, x = V.ref a) ∧ n < n3 ∧ vs.length + 1 ≤ n3 ∨ x = .non ∧ n3 = (lsE F).length ∧ vs.length ≤ n3)) → Q2 x H3) → sp_Reader__next_unit K [.ref r] H2 Q2 E0 := fun n hv2 tv2 ev2 uv2 cs2 es2 G2 H2 vs Q2 A2 rd2 fr2 cl2 nlv hn hvs hq => by
      refine rd_next ri A2 rd2 fr2 hn (fun v G3 H3 n3 hv3 tv3 ev3 uv3 cs3 es3 A3 g13 hv h3 h3' rd3 fr3 mm => ?_) (fun G3 H3 hv3 tv3 ev3 uv3 cs3 A3 g13 rd3 fr3 mm => ?_)
      · obtain ⟨c3, n3'⟩ := mm _ _ cl2 nlv
        exact hq _ _ ⟨n3, hv3, tv3, ev3, uv3, cs3, es3, G3, by omega, A3, rd3, fr3, c3, n3', h3', .inl ⟨hv, h3, by omega⟩⟩
      · obtain ⟨c3, n3'⟩ := mm _ _ cl2 nlv
        exact hq _ _ ⟨_, hv3, tv3, ev3, uv3, cs3, es2, G3, hn, A3, rd3, fr3, c3, n3', Nat.le_refl _, .inr ⟨rfl, rfl, by omega⟩⟩
    walk_at "sp"
    refine S_me rd2.ob rfl ?_
    walk_at "sp"
    refine body 0 hv tv ev uv [] [] G1 H2 [] _ A2 rd2 fr1 cl2 nlv (Nat.zero_le _) (Nat.le_refl _) fun x H3 ⟨n3, hv3, tv3, ev3, uv3, cs3, es3, G3, h3, A3, rd3, fr3, c3, nl3, h3', hc3⟩ => ?_
    walk_at "sp"
    refine ⟨fun m σ H4 => ∃ (x : V) (n4 : Nat) (hv4 tv4 ev4 uv4 : V) (cs4 : List Addr) (es4 : List (Nat × Addr)) (G4 : Hp) (vs : List V), σ = [some (.ref r), some rb, some (.ref lv), some x] ∧ Adv M G1 H1 G4 H4 ∧ RD K F uss n4 G4 H4 r rdx o dx d p hv4 tv4 ev4 uv4 cs4 du es4 0 ∧ (∀ q, Mu r o p cs4 du es4 q → M q ∨ H1 q = none) ∧ Cl M H1 G4 H4 lv (.lst vs) ∧ ¬ Mu r o p cs4 du es4 lv ∧ n4 ≤ (lsE F).length ∧ m = (match x with | .non => 0 | _ => (lsE F).length + 1 - n4) ∧
          ((∃ a, x = V.ref a) ∧ vs.length + 1 ≤ n4 ∨ x = .non ∧ n4 = (lsE F).length ∧ vs.length ≤ n4),
      ⟨_, x, n3, hv3, tv3, ev3, uv3, cs3, es3, G3, [], rfl, A3, rd3, fr3, c3, nl3, h3', rfl, hc3.elim (fun h => .inl ⟨h.1, h.2.2⟩) fun h => .inr ⟨h.1, h.2.1, h.2.2⟩⟩, ?_⟩
    rintro m σ H4 ⟨x, n4, hv4, tv4, ev4, uv4, cs4, es4, G4, vs, rfl, A4, rd4, fr4, c4, nl4, h4, rfl, hc4⟩
    rcases hc4 with ⟨⟨a, rfl⟩, hvs⟩ | ⟨rfl, rfl, hvs⟩
    · walk_at "sp"
      refine ⟨fun σ' H' => _, fun σ' H' z => z, ?_⟩
      walk_at "sp"
      have AL : Adv (· = lv) G4 H4 G4 H4 := .refl A4.gh
      have cL : Cl (· = lv) H4 G4 H4 lv (.lst vs) := ⟨.inl rfl, c4.g, c4.h⟩
      refine S_app' AL cL (by omega) fun H5 B5 c5 _ => ?_
      have A5 := A4.trans B5 fun q e => .inr (by subst e; exact flv)
      have c5' : Cl M H1 G4 H5 lv _ := ⟨.inr flv, c5.g, c5.h⟩
      have rd5 := rd4.mono B5 fun q hq e => nl4 (e ▸ hq)
      walk_at "sp"
      refine S_me rd5.ob rfl ?_
      walk_at "sp"
      refine body n4 hv4 tv4 ev4 uv4 cs4 es4 G4 H5 _ _ A5 rd5 fr4 c5' nl4 h4 (by rw [List.length_append]; simp; omega) fun x H6 ⟨n6, hv6, tv6, ev6, uv6, cs6, es6, G6, h6, A6, rd6, fr6, c6, nl6, h6', hc6⟩ => ?_
      walk_at "sp"
      rcases hc6 with ⟨hx, k1, k2⟩ | ⟨hx, k1, k2⟩
      · obtain ⟨a6, rfl⟩ := hx
        exact ⟨(lsE F).length + 1 - n6, by show _ < (lsE F).length + 1 - n4; omega, _, n6, hv6, tv6, ev6, uv6, cs6, es6, G6, _, rfl, A6, rd6, fr6, c6, nl6, h6', rfl, .inl ⟨⟨a6, rfl⟩, k2⟩⟩
      · subst hx
        exact ⟨0, by show _ < (lsE F).length + 1 - n4; omega, _, n6, hv6, tv6, ev6, uv6, cs6, es6, G6, _, rfl, A6, rd6, fr6, c6, nl6, h6', rfl, .inr ⟨rfl, k1, k2⟩⟩
    · have cr4 : Cl (fun _ => True) H G4 H4 r _ := ⟨.inl trivial, rd4.go, rd4.ob⟩
      have cl4 : Cl (fun _ => True) H G4 H4 lv _ := ⟨.inl trivial, c4.g, c4.h⟩
      walk_at "sp"
      have AL : Adv (· = r) G4 H4 G4 H4 := .refl A4.gh
      have cL : Cl (· = r) H4 G4 H4 r _ := ⟨.inl rfl, rd4.go, rd4.ob⟩
      refine sf_Reader_given T AL cL fun H5 B5 c5 _ => ?_
      walk_at "sp"
      have nur : du ≠ r := fun e => by
        have := rd4.ob
        rw [← e, rd4.ru.hd] at this
        cases this
      refine q _ G4 H5 hv4 tv4 ev4 uv4 cs4 es4 _ (A4.trans B5 fun q e => .inl (by subst e; rw [← hMM]; exact .inl rfl)) ⟨c5.h, c5.g, rd4.lr.mono B5 fun q hq e => rd4.lr.not_r rd4.ob (e ▸ hq), rd4.ru.mono B5 nur fun e he z => ?_, rd4.ndp, rd4.dis, rd4.len⟩ fr4
      obtain ⟨_, vs5, h5, _⟩ := rd4.ru.cell e he
      rw [z, rd4.ob] at h5
      cases h5
end
/-! w51 -/
section
variable {P : Program} {w : World} {K : PySem.W.Frag} {mg : Str → Option Value} {base : Heap}
def prOf (tk sk : Nat) (nk : List (Str × Str)) (tags : List TagT) (uss : List (List Un)) : Pr := ⟨tk, sk, List.zipWith (fun x us => ⟨x.1, x.2, us⟩) nk uss, tags⟩
def sp_Reader_close (K : PySem.W.Frag) : Sp := fun vs H Q _ => ∃ (F : Fl) (uss : List (List Un)) (G : Hp) (r rdx o dx d p : Addr) (hv tv ev uv : V) (cs : List Addr) (du : Addr) (es : List (Nat × Addr)) (g : Int) (tk sk : Nat) (nk : List (Str × Str)) (tags : List TagT), Same G H ∧ vs = [.ref r] ∧ FileIs tk sk nk tags (uss.map (encU [])) F ∧ RdIn F uss ∧
  H r = some (rdO K rdx o du g (-1)) ∧ G r = none ∧ LR K F (lsE F).length G H o dx d p hv tv ev uv cs ∧ H du = some (.dK (udK es)) ∧ (es.map (·.1)).Nodup ∧ (∀ e ∈ es, Rp G (.ref e.2) (.list ((uAt uss e.1).map UnD))) ∧ (∀ t, trk t F.us ≠ [] → t ∈ es.map (·.1)) ∧
  Post G H Q fun v G' => Rp G' v (PrD (prOf tk sk nk tags uss))
theorem sc_Reader_close : FnScope n_Reader_close p_Reader_close (defScope s_Reader_close) := ⟨rfl, rfl, rfl, by decide +kernel, rfl, by decide +kernel, by decide +kernel⟩
theorem ok_Reader_close (T : Facts K mg) : FnOk P w K mg base CX0 10 (mA K "Reader" "close") (mD K "Reader" "close") p_Reader_close (sp_Reader_close K) := by
  refine T.Reader_close.F.ok sc_Reader_close (fun vs H Q E h => ?_) (fun cdv A outer s H vs Q E hr h => ?_)
  · obtain ⟨F, uss, G, r, rdx, o, dx, d, p, hv, tv, ev, uv, cs, du, es, g, tk, sk, nk, tags, _, rfl, _⟩ := h
    rfl
  · obtain ⟨F, uss, G, r, rdx, o, dx, d, p, hv, tv, ev, uv, cs, du, es, g, tk, sk, nk, tags, sG, rfl, f, ri, hob, gr, lr, hdu, ndk, hes, cov, q⟩ := h
    have fv := ri.fv
    have fp := fileB_pos (lsE F)
    have hN := lsE_len F
    have p1 := pre_le F
    have rl := f.rl
    rw [List.length_map] at rl
    obtain ⟨s1, W⟩ := f.win
    have w1 := W.len
    have w4 := W.l4
    rw [List.length_map] at w1 w4
    refine ⟨_, PSs.nox (pss_cons (ps_expr (pe_meth0 (pv 0) T.cl_Reader T.m_Reader__next_unit (ok_Reader__next_unit T) (hr.mono (by decide)) T.Reader__next_unit.b .nil pass0))
  (pss_cons (ps_expr (pe_meth0 (pe_fld (pv 0) rfl) T.cl_LeafReader T.m_LeafReader_finish (ok_LeafReader_finish T) (hr.mono (by decide)) T.LeafReader_finish.b .nil pass0))
  (pss_cons (ps_asg (pe_fld (pe_fld (pv 0) rfl) rfl) (pg_tup rfl (pgs_cons (pg_name (i := 1) sc_Reader_close.nd rfl (.inl rfl)) (pgs_cons (pg_name (i := 2) sc_Reader_close.nd rfl (.inl rfl)) (pgs_cons (pg_name (i := 3) sc_Reader_close.nd rfl (.inl rfl)) pgs_nil)))))
  (pss_cons (ps_set (i := 4) sc_Reader_close.nd rfl (.inl rfl) (pe_lst pa_nil))
  (pss_cons (ps_for PassesOwn.never rfl (pi_range1 rfl T.z_range (pa_cons (pe_callB call_len_seq rfl T.z_len bi_len (pa_cons (pv 3) pa_nil)) pa_nil)) (pg_name (i := 5) sc_Reader_close.nd rfl (.inl rfl))
    (pss_cons (ps_asg (pe_ix ix_list (pv 3) (pv 5) (fun _ _ => rfl)) (pg_tup rfl (pgs_cons (pg_name (i := 6) sc_Reader_close.nd rfl (.inl rfl)) (pgs_cons (pg_name (i := 7) sc_Reader_close.nd rfl (.inl rfl)) (pgs_cons (pg_name (i := 8) sc_Reader_close.nd rfl (.inl rfl)) pgs_nil)))))
  (pss_one (ps_expr (pe_bm PySem.F.plainAttrs_list PySem.F.slot_list_append PySem.F.type_list_append mt_append (pv 4) (pa_cons (pe_tup (pa_cons (pv 6) (pa_cons (pv 7) (pa_cons (pe_call (ok_copied T) (hr.mono (by decide)) (by rfl) T.copied.g T.copied.kp T.copied.b .nil pass0 (pa_cons (pe_dget2 (hu1_of hr) (pe_fld (pv 0) rfl) (pe_op op_add (pv 5) pe_int) (pe_lst pa_nil) ⟨rfl, rfl, rfl, rfl⟩) pa_nil)) pa_nil)))) pa_nil))))))
  (pss_one (ps_ret (pe_tup (pa_cons (pv 1) (pa_cons (pv 2) (pa_cons (pv 4) (pa_cons (pe_callTy call_listN rfl T.z_list bi_list (pa_cons (pe_fld (pe_fld (pv 0) rfl) rfl) pa_nil)) pa_nil)))))))))))), ?_⟩
    have A : Adv0 G H G H := .refl sG
    have cr : Cl (fun _ => True) H G H r _ := ⟨.inl trivial, gr, hob⟩
    walk_at "sp"
    refine ⟨F, uss, 0, G, r, rdx, o, dx, d, p, hv, tv, ev, uv, cs, du, es, g, sG, rfl, ri, .inr ⟨hob, gr, lr, ?_⟩⟩
    have e4 : lastOf F (lsE F).length = 4 := by
      rw [hN]
      exact lastOf_succ (lsE_E F)
    have hlo := lr.ob
    rw [e4] at hlo
    walk_at "sp"
    refine S_me hlo rfl ?_
    walk_at "sp"
    refine ⟨G, o, dx, d, _, _, _, _, _, _, _, _, p, _, sG, rfl, hlo, lr.dt, fp, ?_⟩
    have co : Cl (fun _ => True) H G H o _ := ⟨.inl trivial, lr.go, hlo⟩
    have hhd := lr.ph.hd (by omega)
    rw [f.etk, f.esk] at hhd
    obtain ⟨h1, rr, xr, rfl, hh1, hrr, hxr⟩ := hhd.hdr
    have lxr : xr.length = F.rows.length := by rw [hxr.len, List.length_map]
    have htg := lr.ph.tg
    rw [if_pos (by omega), f.etags] at htg
    obtain ⟨t1, xt, rfl, ht1, hxt⟩ := htg.list
    walk_at "sp"
    refine ⟨Nat.zero_le _, S_newM A fun lv H1 A1 cl flv mm => ?_⟩
    walk_at "sp"
    have hlen : (prOf tk sk nk tags uss).tracks.length = F.rows.length := by
      show (List.zipWith _ nk uss).length = _
      rw [List.length_zipWith]
      omega
    refine S_rn1 (k := F.rows.length) (by rw [lxr]) (by omega) (S_forR (fun i σ H2 => ∃ (x5 x6 x7 x8 : Option V) (G2 : Hp) (vs : List V), σ = [some (.ref r), some (.int tk), some (.int sk), some (.ref rr), some (.ref lv), x5, x6, x7, x8] ∧ Adv0 G H G2 H2 ∧ Cl No H G2 H2 lv (.lst vs) ∧ RpL G2 vs (((prOf tk sk nk tags uss).tracks.take i).map TkD))
      ⟨none, none, none, none, G, [], rfl, A1, cl, .nil⟩ ?_ ?_)
    · rintro i σ H2 hi ⟨x5, x6, x7, x8, G2, vs, rfl, A2, cl2, rl2⟩
      have hri : F.rows[i]? = some (F.rows[i]'hi) := List.getElem?_eq_getElem hi
      generalize F.rows[i]'hi = rw_ at hri
      have hui : uss[i]? = some (uss[i]'(by omega)) := List.getElem?_eq_getElem (by omega)
      generalize uss[i]'(by omega) = us at hui
      have hri2 := hri
      rw [f.erows] at hri2
      obtain ⟨x, ms, hnk, hms, erw⟩ := rowsN_get hri2
      have htk : (prOf tk sk nk tags uss).tracks[i]? = some ⟨x.1, x.2, us⟩ := by
        show (List.zipWith _ nk uss)[i]? = _
        rw [List.getElem?_zipWith, hnk, hui]
      obtain ⟨v, hv2, rv⟩ := hxr.get (get_map (f := RowD) hri)
      obtain ⟨b, rfl, hb⟩ := rv.row
      have htr := f.trs i (encU [] us) (by rw [List.getElem?_map, hui]; rfl)
      have ltr := congrArg List.length htr
      rw [List.length_map, encU_len] at ltr
      have lus := fv.usL
      have lflt := List.length_filter_le (fun l : Lf => decide (l.track = i + 1)) F.us
      have lus2 : us.length ≤ 50 := by rw [← ltr]; unfold trk; omega
      have lvs := rl2.len
      rw [List.length_map, List.length_take] at lvs
      have cr2 : Cl (fun _ => True) H G2 H2 r _ := ⟨.inl trivial, A2.nw r gr (by rw [hob]; exact fun z => nomatch z), A2.kp r _ (fun z => z) hob⟩
      have hdu2 := A2.kp du _ (fun z => z) hdu
      walk_at "sp"
      refine S_ixL (A2.l hrr) (atI_n (Int.zero_add _) hv2) ?_
      walk_at "sp"
      refine S_isd hdu2 ?_
      walk_at "sp"
      refine ⟨Nat.zero_le _, S_newF (M := No) (G0 := G2) (H0 := H2) (.refl A2.gh) fun p3 G3 H3 B3 g3 hp3 _ => ?_⟩
      have A3 := A2.call B3
      obtain ⟨y, hy, ry⟩ : ∃ y, (valV (udK es) (.inl ((i + 1 : Nat) : Int))).getD (.ref p3) = y ∧ Rp G3 y (.list (us.map UnD)) := by
        by_cases ht : i + 1 ∈ es.map (·.1)
        · obtain ⟨⟨t, c⟩, hc, e5⟩ := List.mem_map.mp ht
          obtain rfl : t = i + 1 := e5
          rw [udK_some ndk hc]
          have := hes _ hc
          rw [show uAt uss (i + 1, c).1 = uss.getD i [] from rfl, List.getD_eq_getElem?_getD, hui] at this
          exact ⟨_, rfl, this.mono A3.gg⟩
        · rw [udK_none ht]
          have h0 : trk (i + 1) F.us = [] := Classical.byContradiction fun h => ht (cov _ h)
          rw [h0] at ltr
          have : us = [] := List.eq_nil_of_length_eq_zero ltr.symm
          rw [this]
          exact ⟨_, rfl, .lst hp3 .nil⟩
      rw [show (0 : Int) + (i : Nat) + 1 = ((i + 1 : Nat) : Int) by omega]
      refine S_dgk (i := ((i + 1 : Nat) : Int)) (B3.kp du _ (fun z => z) hdu2) rfl ?_
      rw [hy]
      walk_at "sp"
      refine ⟨G3, y, us, A3.gh, rfl, ry, by omega, fun v4 G4 H4 B4 rv4 => ?_⟩
      have A4 := A3.call B4
      have cl4 := (cl2.call B3).call B4
      walk_at "sp"
      refine ⟨line_le (by simp), S_newF A4 fun p5 G5 H5 A5 g5 hp5 mm => ?_⟩
      have cl5 := mm _ _ cl4
      clear mm
      walk_at "sp"
      refine S_app' A5 cl5 (by omega) fun H6 A6 cl6 _ => ?_
      refine ⟨_, _, _, _, G5, _, rfl, A6, cl6, ?_⟩
      rw [take_snoc htk, List.map_append]
      refine (rl2.mono (B3.gg.trans (B4.gg.trans g5))).snoc (.tup hp5 (.cons ?_ (.cons ?_ (.cons (rv4.mono g5) .nil))))
      · rw [erw]
        exact .str _
      · rw [erw]
        exact .str _
    · rintro σ H2 ⟨x5, x6, x7, x8, G2, vs, rfl, A2, cl2, rl2⟩
      rw [← hlen, List.take_length] at rl2
      have cr2 : Cl (fun _ => True) H G2 H2 r _ := ⟨.inl trivial, A2.nw r gr (by rw [hob]; exact fun z => nomatch z), A2.kp r _ (fun z => z) hob⟩
      have co2 : Cl (fun _ => True) H G2 H2 o _ := ⟨.inl trivial, A2.nw o lr.go (by rw [hlo]; exact fun z => nomatch z), A2.kp o _ (fun z => z) hlo⟩
      have A3 := A2.still flv cl2.h cl2.g
      have g3 := same_new (u := HO.lst vs) cl2.g
      walk_at "sp"
      refine S_listL (A3.l ht1) (S_newF A3 fun p4 G4 H4 A4 g4 hp4 _ => ?_)
      walk_at "sp"
      refine ⟨line_le (by simp), S_newF A4 fun p5 G5 H5 A5 g5 hp5 _ => ?_⟩
      exact q _ _ _ A5 (.tup hp5 (.cons (.int _) (.cons (.int _) (.cons (.lst (g5 _ _ (g4 _ _ upd_same)) (rl2.mono (g3.trans (g4.trans g5)))) (.cons (.lst (g5 _ _ hp4) (hxt.mono (A4.gg.trans g5))) .nil)))))
end
/-! w52 -/
section
variable {P : Program} {w : World} {K : PySem.W.Frag} {mg : Str → Option Value} {base : Heap}
theorem freeze_all2 {M : Addr → Prop} {G0 H0 H : Hp} : ∀ (cs : List Addr) {G : Hp}, Adv M G0 H0 G H → cs.Nodup → (∀ c ∈ cs, H0 c = none ∧ G c = none ∧ ∃ u, H c = some u) → ∃ G', Adv M G0 H0 G' H ∧ Same G G' ∧ (∀ c ∈ cs, G' c = H c) ∧ ∀ b, b ∉ cs → G' b = G b
  | [], G, A, _, _ => ⟨G, A, .refl G, fun _ z => (nomatch z), fun _ _ => rfl⟩
  | c :: cs, G, A, nd, h => by
    obtain ⟨h1, h2, u, h3⟩ := h c List.mem_cons_self
    rw [List.nodup_cons] at nd
    have A1 := A.still h1 h3 h2
    obtain ⟨G', A2, g2, hc, hb⟩ := freeze_all2 cs A1 nd.2 fun x hx => by
      obtain ⟨k1, k2, k3⟩ := h x (List.mem_cons_of_mem _ hx)
      have n : x ≠ c := fun z => nd.1 (by rw [← z]; exact hx)
      exact ⟨k1, by rw [upd_ne n]; exact k2, k3⟩
    refine ⟨G', A2, (same_new h2).trans g2, fun x hx => ?_, fun b hbn => ?_⟩
    · rcases List.mem_cons.mp hx with rfl | hx
      · rw [h3]
        exact g2 _ _ upd_same
      · exact hc x hx
    · rw [List.mem_cons, not_or] at hbn
      rw [hb b hbn.2, upd_ne hbn.1]
theorem LR.re {F : Fl} {n : Nat} {G G' H : Hp} {o dx d p : Addr} {hv tv ev uv : V} {cs : List Addr} (lr : LR K F n G H o dx d p hv tv ev uv cs) (s : Same G G') (h : ∀ q, Mr o p cs q → G' q = none) : LR K F n G' H o dx d p hv tv ev uv cs := by
  refine ⟨lr.ob, h o (.inl rfl), s _ _ lr.dt, ⟨fun z => (lr.ph.hd z).mono s, lr.ph.tg.mono s, lr.ph.en.mono s, fun z => ?_, lr.ph.len, fun k c hk => ?_, lr.ph.nd, ?_⟩, lr.nocs⟩
  · obtain ⟨ul, e, hu⟩ := lr.ph.un z
    exact ⟨ul, e, s _ _ hu⟩
  · obtain ⟨vs, _, hh, r⟩ := lr.ph.cell k c hk
    exact ⟨vs, h c (.inr (.inr (List.mem_of_getElem? hk))), hh, r.mono s⟩
  · obtain ⟨kvs, g, hh, l, r⟩ := lr.ph.dict
    refine ⟨kvs, h p (.inr (.inl rfl)), hh, l, fun i u h1 h2 h3 h4 => ?_⟩
    obtain ⟨t, e, rt⟩ := r i u h1 h2 h3 h4
    exact ⟨t, e, rt.mono s⟩
def sp_read : Sp := fun vs H Q _ => ∃ (F : Fl) (uss : List (List Un)) (G : Hp) (rb : V) (tk sk : Nat) (nk : List (Str × Str)) (tags : List TagT), Same G H ∧ vs = [rb] ∧ Rp G rb (IntsD (fileB (lsE F))) ∧ FileIs tk sk nk tags (uss.map (encU [])) F ∧ (∀ us ∈ uss, ∀ u ∈ us, u.content.length ≤ 200) ∧
  Post G H Q fun v G' => Rp G' v (PrD (prOf tk sk nk tags uss))
theorem sc_read : FnScope n_read p_read (defScope s_read) := ⟨rfl, rfl, rfl, by decide +kernel, rfl, by decide +kernel, by decide +kernel⟩
theorem ok_read (T : Facts K mg) : FnOk P w K mg base CX0 12 (fA K "read") (fD K "read") p_read sp_read := by
  refine T.read.F.ok sc_read (fun vs H Q E h => ?_) (fun cdv A outer s H vs Q E hr h => ?_)
  · obtain ⟨F, uss, G, rb, tk, sk, nk, tags, _, rfl, _⟩ := h
    rfl
  · obtain ⟨F, uss, G, rb, tk, sk, nk, tags, sG, rfl, hrb, f, hc, q⟩ := h
    have ri : RdIn F uss := ⟨⟨tk, sk, nk, tags, f⟩, hc⟩
    refine ⟨_, PSs.nox (pss_cons (ps_set (i := 1) sc_read.nd rfl (.inl rfl) (pe_make0 T.mk_Reader (ok_Reader_init T) (hr.mono (by decide)) (by rfl) T.g_Reader T.Reader_init.b .nil pass0))
  (pss_cons (ps_expr (pe_meth (pv 1) T.cl_Reader T.m_Reader_feed (ok_Reader_feed T) (hr.mono (by decide)) T.Reader_feed.b .nil pass0 (pa_cons (pv 0) pa_nil)))
  (pss_one (ps_ret (pe_meth0 (pv 1) T.cl_Reader T.m_Reader_close (ok_Reader_close T) (hr.mono (by decide)) T.Reader_close.b .nil pass0))))), ?_⟩
    have A : Adv0 G H G H := .refl sG
    have hN := lsE_len F
    walk_at "sp"
    refine S_mk A fun r rdx H1 A1 c1 fo mm => ?_
    clear mm
    refine ⟨G, r, rdx, A1.gh, rfl, c1.g, c1.h, fun G2 H2 o odx d p du hv tv ev uv B2 h2 co fro rt re cd frd cp frp cu fru npu => ⟨rfl, ?_⟩⟩
    have A2 := c1.trans A1 B2
    have c2 : Cl No H G2 H2 r _ := c1.meth B2 h2
    replace fro := A1.fresh fro
    replace frd := A1.fresh frd
    replace frp := A1.fresh frp
    replace fru := A1.fresh fru
    walk_at "sp"
    refine ⟨F, uss, G2, r, rdx, o, odx, d, p, hv, tv, ev, uv, rb, du, A2.gh, rfl, hrb.mono A2.gg, ri, ⟨h2, c2.g⟩, ⟨co.h, co.g⟩, rt, re, ⟨cd.h, cd.g⟩, ⟨cp.h, cp.g⟩, ⟨cu.h, cu.g⟩, npu, fun H3 B3 h3 v G4 H4 hv4 tv4 ev4 uv4 cs4 es4 g4 B4 rd4 fr4 => ?_⟩
    have A3 := A2.trans B3 (fun q e => .inr (by subst e; exact frd) : ∀ q, q = d → No q ∨ H q = none)
    have A3' := A3.still frd h3 cd.g
    have f0 : ∀ q, Mu r o p [] du [] q → No q ∨ H q = none := fun q hq => by
      rcases hq with rfl | (rfl | rfl | h) | rfl | h
      · exact .inr fo
      · exact .inr fro
      · exact .inr frp
      · cases h
      · exact .inr fru
      · cases h
    have A4 := A3'.trans B4 f0
    have fr5 : ∀ q, Mu r o p cs4 du es4 q → H q = none := fun q hq => (fr4 q hq).elim (fun z => (f0 q z).elim (fun z => z.elim) id) fun z => A3.fresh z
    obtain ⟨G5, A5, g45, hce, hoth⟩ := freeze_all2 (es4.map (·.2)) A4 rd4.ru.nda fun c hcc => by
      obtain ⟨e, he, rfl⟩ := List.mem_map.mp hcc
      obtain ⟨ge, vs, hh, _⟩ := rd4.ru.cell e he
      exact ⟨fr5 _ (.inr (.inr (.inr hcc))), ge, _, hh⟩
    have notc : ∀ {q : Addr}, (∀ vs, H4 q ≠ some (.lst vs)) → q ∉ es4.map (·.2) := fun {q} h hq => by
      obtain ⟨e, he, rfl⟩ := List.mem_map.mp hq
      obtain ⟨_, vs, hh, _⟩ := rd4.ru.cell e he
      exact h vs hh
    have lr4 := rd4.lr
    have g5r : G5 r = none := by
      rw [hoth r (notc fun vs h => by rw [rd4.ob] at h; cases h)]
      exact rd4.go
    have lr5 := lr4.re g45 fun q hq => by
      have hq2 : q ∉ es4.map (·.2) := by
        rcases hq with rfl | rfl | h
        · exact notc fun vs h => by rw [lr4.ob] at h; cases h
        · obtain ⟨kvs, hk⟩ := lr4.p_dk
          exact notc fun vs h => by rw [hk] at h; cases h
        · intro hz
          obtain ⟨e, he, rfl⟩ := List.mem_map.mp hz
          exact rd4.dis e he h
      rw [hoth q hq2]
      rcases hq with rfl | rfl | h
      · exact lr4.go
      · obtain ⟨kvs, hk, _⟩ := lr4.ph.dict
        exact hk
      · obtain ⟨k, hk⟩ := List.mem_iff_getElem?.mp h
        obtain ⟨vs, hh, _⟩ := lr4.ph.cell k q hk
        exact hh
    have htake : F.us.take ((lsE F).length - (pre F).length) = F.us := List.take_of_length_le (by omega)
    have cr5 : Cl (fun _ => True) H G5 H4 r _ := ⟨.inl trivial, g5r, rd4.ob⟩
    walk_at "sp"
    refine ⟨F, uss, G5, r, rdx, o, odx, d, p, hv4, tv4, ev4, uv4, cs4, du, es4, g4, tk, sk, nk, tags, A5.gh, rfl, f, ri, rd4.ob, g5r, lr5, rd4.ru.hd, rd4.ru.ndk, fun e he => ?_, fun t ht => rd4.ru.cov t (by rw [htake]; exact ht), fun v6 G6 H6 B6 rv6 => ?_⟩
    · obtain ⟨_, vs, hh, rl⟩ := rd4.ru.cell e he
      refine .lst (by rw [hce _ (List.mem_map.mpr ⟨e, he, rfl⟩)]; exact hh) ?_
      have ed : duU uss F ((lsE F).length - (pre F).length) e.1 = uAt uss e.1 := by
        rw [duU, htake]
        refine List.take_of_length_le ?_
        cases e.1 with
        | zero => exact Nat.zero_le _
        | succ t =>
          show (uss.getD t []).length ≤ _
          cases hut : uss[t]? with
          | none => rw [List.getD_eq_getElem?_getD, hut]; exact Nat.zero_le _
          | some us =>
            have htr := f.trs t (encU [] us) (by rw [List.getElem?_map, hut]; rfl)
            have := congrArg List.length htr
            rw [List.length_map, encU_len] at this
            rw [List.getD_eq_getElem?_getD, hut]
            show us.length ≤ _
            omega
      rw [ed] at rl
      exact rl.mono g45
    · exact q _ _ _ (A5.call B6) rv6
end
/-! w53 -/
section
variable {P : Program} {w : World} {K : PySem.W.Frag} {mg : Str → Option Value} {base : Heap}
theorem UOk.snoc {u : Un} : ∀ {us : List Un} {l e : Nat}, UOk l us → (∀ v ∈ us, v.time + v.span ≤ e) → l ≤ e → UOk e [u] → UOk l (us ++ [u])
  | [], l, e, _, _, hl, h => by
    obtain ⟨h1, h2⟩ := h
    exact ⟨by omega, h2⟩
  | v :: us, l, e, ⟨o1, o2, o3, o4, o5, o6, o7⟩, hv, hl, h => ⟨o1, o2, o3, o4, o5, o6, UOk.snoc o7 (fun x hx => hv x (List.mem_cons_of_mem _ hx)) (hv v List.mem_cons_self) h⟩
theorem S_andB {x : V} {tb : TE} {σ : L2.St} {H : Hp} {Q : VK} (J : V → Hp → Prop) (hJ : ∀ x H', J x H' → Q x H') (h : ∀ Q', (∀ x H', J x H' → Q' x H') → ∃ c, x = .bl c ∧ if c = true then tb σ H Q' else Q' (.bl false) H) : ∃ c, x = .bl c ∧ if c = true then tb σ H Q else Q (.bl false) H := h Q hJ
def sp_lw_units : Sp := fun vs H Q _ => ∃ (G : Hp) (r : V) (ds : List Int) (k m : Nat), Same G H ∧ vs = [r, .int k, .int m] ∧ Rp G r (IntsD ds) ∧ ds.length ≤ 4000 ∧ k ≤ 10000 ∧ m < 8 ∧ Post G H Q fun v G' => ∃ us : List Un, Rp G' v (.list (us.map UnD)) ∧ us.length = m ∧ UOk 0 us ∧ Hd0 us ∧ ∀ u ∈ us, u.time + u.span ≤ 274877906944 + 6000 * 8
theorem sc_lw_units : FnScope n_lw_units p_lw_units (defScope s_lw_units) := ⟨rfl, rfl, rfl, by decide +kernel, rfl, by decide +kernel, by decide +kernel⟩
theorem ok_lw_units (T : Facts K mg) : FnOk P w K mg base CX0 3 (fA K "_law_units") (fD K "_law_units") p_lw_units sp_lw_units := by
  refine T.lw_units.F.ok sc_lw_units (fun vs H Q E h => ?_) (fun cdv A outer s H vs Q E hr h => ?_)
  · obtain ⟨G, r, ds, k, m, _, rfl, _⟩ := h
    rfl
  · obtain ⟨G, r, ds, k, m, sG, rfl, hr0, l1, l2, l3, q⟩ := h
    obtain ⟨a, rfl, ha⟩ := hr0.ints
    refine ⟨_, PSs.nox (pss_cons (ps_set (i := 3) sc_lw_units.nd rfl (.inl rfl) (pe_lst pa_nil))
  (pss_cons (ps_set (i := 4) sc_lw_units.nd rfl (.inl rfl) (pe_lst pa_nil))
  (pss_cons (ps_set (i := 5) sc_lw_units.nd rfl (.inl rfl) (pe_ix ix_list (pe_lst (pa_cons pe_int (pa_cons pe_int (pa_cons pe_int (pa_cons pe_int (pa_cons (pe_op op_pow pe_int pe_int) pa_nil)))))) (pe_call (ok_lw_mix T) (hr.mono (by decide)) (by rfl) T.lw_mix.g T.lw_mix.kp T.lw_mix.b .nil pass0 (pa_cons (pv 0) (pa_cons (pv 1) (pa_cons pe_int pa_nil)))) (fun _ _ => rfl)))
  (pss_cons (ps_set (i := 6) sc_lw_units.nd rfl (.inl rfl) (pe_ix ix_list (pe_lst (pa_cons pe_int (pa_cons pe_int (pa_cons pe_int (pa_cons pe_int pa_nil))))) (pe_call (ok_lw_mix T) (hr.mono (by decide)) (by rfl) T.lw_mix.g T.lw_mix.kp T.lw_mix.b .nil pass0 (pa_cons (pv 0) (pa_cons (pe_op op_add (pv 1) pe_int) (pa_cons pe_int pa_nil)))) (fun _ _ => rfl)))
  (pss_cons (ps_for PassesOwn.never rfl (pi_range1 rfl T.z_range (pa_cons (pv 2) pa_nil)) (pg_name (i := 7) sc_lw_units.nd rfl (.inl rfl))
    (pss_cons (ps_set (i := 8) sc_lw_units.nd rfl (.inl rfl) (pe_op op_add (pe_op op_add (pv 1) pe_int) (pe_op op_mul pe_int (pv 7))))
  (pss_cons (ps_set (i := 9) sc_lw_units.nd rfl (.inl rfl) (pe_op op_add (pv 5) (pe_op op_mul (pv 6) (pe_call (ok_lw_mix T) (hr.mono (by decide)) (by rfl) T.lw_mix.g T.lw_mix.kp T.lw_mix.b .nil pass0 (pa_cons (pv 0) (pa_cons (pv 8) (pa_cons pe_int pa_nil)))))))
  (pss_cons (ps_set (i := 10) sc_lw_units.nd rfl (.inl rfl) (pe_op op_add pe_int (pe_op op_mul (pv 6) (pe_call (ok_lw_mix T) (hr.mono (by decide)) (by rfl) T.lw_mix.g T.lw_mix.kp T.lw_mix.b .nil pass0 (pa_cons (pv 0) (pa_cons (pe_op op_add (pv 8) pe_int) (pa_cons pe_int pa_nil)))))))
  (pss_cons (ps_set (i := 11) sc_lw_units.nd rfl (.inl rfl) (pe_and (pe_cmpR op_gt (pv 7) pe_int (nomark _)) (pe_one (pe_cmpR op_gt (pe_call (ok_lw_mix T) (hr.mono (by decide)) (by rfl) T.lw_mix.g T.lw_mix.kp T.lw_mix.b .nil pass0 (pa_cons (pv 0) (pa_cons (pe_op op_add (pv 8) pe_int) (pa_cons pe_int pa_nil)))) pe_int (nomark _)))))
  (pss_cons (ps_set (i := 4) sc_lw_units.nd rfl (.inl rfl) (pe_call (ok_lw_content T) (hr.mono (by decide)) (by rfl) T.lw_content.g T.lw_content.kp T.lw_content.b .nil pass0 (pa_cons (pv 0) (pa_cons (pe_op op_add (pv 8) pe_int) (pa_cons (pv 4) pa_nil)))))
  (pss_cons (ps_expr (pe_bm PySem.F.plainAttrs_list PySem.F.slot_list_append PySem.F.type_list_append mt_append (pv 3) (pa_cons (pe_tup (pa_cons (pv 9) (pa_cons (pv 10) (pa_cons (pe_callTy call_listN rfl T.z_list bi_list (pa_cons (pv 4) pa_nil)) (pa_cons (pv 11) pa_nil))))) pa_nil)))
  (pss_one (ps_set (i := 5) sc_lw_units.nd rfl (.inl rfl) (pe_op op_add (pv 9) (pv 10)))))))))))
  (pss_one (ps_ret (pv 3)))))))), ?_⟩
    have A : Adv0 G H G H := .refl sG
    walk_at "sp"
    refine ⟨Nat.zero_le _, S_newM A fun o H1 A1 co fo _ => ?_⟩
    walk_at "sp"
    refine ⟨Nat.zero_le _, S_newF A1 fun p2 G2 H2 A2 g2 hp2 mm => ?_⟩
    have co2 := mm _ _ co
    clear mm
    walk_at "sp"
    refine S_ri ⟨by decide, by decide, by decide⟩ ?_
    walk_at "sp"
    refine ⟨line_le (by simp), S_newF A2 fun p3 G3 H3 A3 g3 hp3 mm => ?_⟩
    have co3 := mm _ _ co2
    clear mm
    walk_at "sp"
    refine ⟨G3, .ref a, ds, k, 5, A3.gh, rfl, hr0.mono A3.gg, by decide, by omega, by omega, fun v hv => ?_⟩
    obtain ⟨L, hL, hL2⟩ : ∃ L : Nat, ([V.int 0, .int 0, .int 3, .int 5000, .int (2 ^ (38 : Int).toNat)] : List V)[v]? = some (.int L) ∧ L ≤ 274877906944 := by
      match v, hv with
      | 0, _ => exact ⟨0, rfl, by omega⟩
      | 1, _ => exact ⟨0, rfl, by omega⟩
      | 2, _ => exact ⟨3, rfl, by omega⟩
      | 3, _ => exact ⟨5000, rfl, by omega⟩
      | 4, _ => exact ⟨274877906944, rfl, by omega⟩
    walk_at "sp"
    refine ⟨line_le (by simp), S_newF A3 fun p4 G4 H4 A4 g4 hp4 mm => ?_⟩
    have co4 := mm _ _ co3
    clear mm
    walk_at "sp"
    refine ⟨G4, .ref a, ds, k + 1, 4, A4.gh, rfl, hr0.mono A4.gg, by decide, by omega, by omega, fun v2 hv2 => ?_⟩
    obtain ⟨S, hS, hS2⟩ : ∃ S : Nat, ([V.int 1, .int 1, .int 9, .int 1000] : List V)[v2]? = some (.int S) ∧ S ≤ 1000 := by
      match v2, hv2 with
      | 0, _ => exact ⟨1, rfl, by omega⟩
      | 1, _ => exact ⟨1, rfl, by omega⟩
      | 2, _ => exact ⟨9, rfl, by omega⟩
      | 3, _ => exact ⟨1000, rfl, by omega⟩
    refine S_ixL (ql A4.gh hp4) (atI_nat hS) ?_
    refine S_name ?_
    refine S_st (σ' := [some (.ref a), some (.int k), some (.int m), some (.ref o), some (.ref p2), some (.int L), some (.int S), none, none, none, none, none]) rfl ?_
    walk_at "sp"
    refine S_rn1 (k := m) rfl (by omega) (S_forR (fun j σ H5 => ∃ (c : Addr) (bs : List Int) (L5 : Nat) (x7 x8 x9 x10 x11 : Option V) (G5 : Hp) (vs : List V) (us : List Un), σ = [some (.ref a), some (.int k), some (.int m), some (.ref o), some (.ref c), some (.int L5), some (.int S), x7, x8, x9, x10, x11] ∧ Adv0 G H G5 H5 ∧ Cl No H G5 H5 o (.lst vs) ∧ RpL G5 vs (us.map UnD) ∧ us.length = j ∧
        G5 c = some (.lst (bs.map V.int)) ∧ bs.length ≤ 200 ∧ Bys bs ∧ UOk 0 us ∧ Hd0 us ∧ (∀ u ∈ us, u.time + u.span ≤ L5) ∧ L5 ≤ 274877906944 + 6000 * j)
      ⟨p2, [], L, none, none, none, none, none, G4, [], [], rfl, A4, co4, .nil, rfl, g4 _ _ (g3 _ _ hp2), by simp, fun _ z => (nomatch z), True.intro, fun u h => by simp at h, fun _ z => (nomatch z), by omega⟩ ?_ ?_)
    · rintro j σ H5 hj ⟨c, bs, L5, x7, x8, x9, x10, x11, G5, vs, us, rfl, A5, co5, rl, hul, hc, hbl, hbb, huo, huh, hue, hL5⟩
      have lvs := rl.len
      rw [List.length_map] at lvs
      have eat : ((k : Nat) : Int) + 2 + 11 * (0 + (j : Nat)) = ((k + 2 + 11 * j : Nat) : Int) := by omega
      walk_at "sp"
      refine S_ri (.inl ⟨by decide, by decide⟩) ?_
      refine S_ri0 ?_
      rw [eat]
      generalize hat : k + 2 + 11 * j = at_
      have hat2 : at_ ≤ 10000 + 2 + 88 := by omega
      walk_at "sp"
      refine ⟨G5, .ref a, ds, at_, 3, A5.gh, rfl, hr0.mono A5.gg, by decide, by omega, by omega, fun v3 hv3 => ?_⟩
      obtain ⟨w3, hw3, hw3b⟩ : ∃ w : Nat, (S : Int) * (v3 : Nat) = w ∧ w ≤ 1000 * 2 := ⟨S * v3, by rw [Int.natCast_mul], Nat.mul_le_mul hS2 (by omega)⟩
      refine S_ri (.inl ⟨by omega, by omega⟩) ?_
      rw [hw3]
      refine S_ri0 ?_
      rw [show ((L5 : Nat) : Int) + (w3 : Nat) = ((L5 + w3 : Nat) : Int) by omega]
      walk_at "sp"
      refine ⟨G5, .ref a, ds, at_ + 1, 4, A5.gh, rfl, hr0.mono A5.gg, by decide, by omega, by omega, fun v4 hv4 => ?_⟩
      obtain ⟨w4, hw4, hw4b⟩ : ∃ w : Nat, (S : Int) * (v4 : Nat) = w ∧ w ≤ 1000 * 3 := ⟨S * v4, by rw [Int.natCast_mul], Nat.mul_le_mul hS2 (by omega)⟩
      refine S_ri (.inl ⟨by omega, by omega⟩) ?_
      rw [hw4]
      refine S_ri0 ?_
      rw [show (1 : Int) + (w4 : Nat) = ((1 + w4 : Nat) : Int) by omega]
      walk_at "sp"
      refine S_andB (fun x H' => H5 = H' ∧ ∃ b : Bool, x = .bl b ∧ (b = true → 0 < j)) ?_ fun Q' hQ' => ?_
      rotate_left
      · by_cases hj0 : 0 < j
        · walk_at "sp"
          refine ⟨G5, .ref a, ds, at_ + 2, 4, A5.gh, rfl, hr0.mono A5.gg, by decide, by omega, by omega, fun v5 hv5 => ?_⟩
          walk_at "sp"
          exact hQ' _ _ ⟨rfl, _, rfl, fun _ => hj0⟩
        · walk_at "sp"
          exact hQ' _ _ ⟨rfl, _, rfl, fun z => (nomatch z)⟩
      · rintro x H' ⟨rfl, b, rfl, hb⟩
        walk_at "sp"
        refine ⟨G5, .ref a, .ref c, ds, bs, at_ + 3, A5.gh, rfl, hr0.mono A5.gg, rp_ints hc, l1, by omega, hbl, hbb, fun v6 G6 H6 B6 ⟨out, rv6, hol, hob⟩ => ?_⟩
        have A6 := A5.call B6
        have co6 := co5.call B6
        obtain ⟨c6, rfl, hc6⟩ := rv6.ints
        walk_at "sp"
        refine S_listL (ql A6.gh hc6) (S_newF A6 fun p7 G7 H7 A7 g7 hp7 mm => ?_)
        have co7 := mm _ _ co6
        clear mm
        walk_at "sp"
        refine ⟨line_le (by simp), S_newF A7 fun p8 G8 H8 A8 g8 hp8 mm => ?_⟩
        have co8 := mm _ _ co7
        clear mm
        walk_at "sp"
        refine S_app' A8 co8 (by omega) fun H9 A9 co9 _ => ?_
        walk_at "sp"
        rw [show ((L5 + w3 : Nat) : Int) + ((1 + w4 : Nat) : Int) = ((L5 + w3 + (1 + w4) : Nat) : Int) by omega]
        have huD : Rp G8 (.ref p8) (UnD ⟨L5 + w3, 1 + w4, out, b⟩) := .tup hp8 (.cons (.int _) (.cons (.int _) (.cons (rp_ints (g8 _ _ hp7)) (.cons (.bl _) .nil))))
        refine ⟨c6, out, L5 + w3 + (1 + w4), _, _, _, _, _, G8, _, us ++ [⟨L5 + w3, 1 + w4, out, b⟩], rfl, A9, co9, ?_, ?_, g8 _ _ (g7 _ _ hc6), hol, hob, ?_, ?_, ?_, by omega⟩
        · rw [List.map_append]
          exact (rl.mono (B6.gg.trans (g7.trans g8))).snoc huD
        · rw [List.length_append, hul]
          rfl
        · exact UOk.snoc (e := L5) huo hue (Nat.zero_le _) ⟨by show L5 ≤ L5 + w3; omega, by show L5 + w3 < _; omega, by show 1 ≤ 1 + w4; omega, by show 1 + w4 < _; omega, hol, hob, True.intro⟩
        · intro u hu
          cases us with
          | nil =>
            rw [List.nil_append] at hu
            cases hu
            cases hbb2 : b with
            | false => rfl
            | true =>
              have := hb hbb2
              rw [← hul] at this
              simp at this
          | cons u0 us => exact huh u hu
        · intro u hu
          rcases List.mem_append.mp hu with hu | hu
          · have := hue u hu
            omega
          · rw [List.mem_singleton.mp hu]
            show L5 + w3 + (1 + w4) ≤ _
            omega
    · rintro σ H5 ⟨c, bs, L5, x7, x8, x9, x10, x11, G5, vs, us, rfl, A5, co5, rl, hul, hc, hbl, hbb, huo, huh, hue, hL5⟩
      walk_at "sp"
      refine q _ _ _ (A5.still fo co5.h co5.g) ⟨us, .lst upd_same (rl.mono (same_new co5.g)), hul, huo, huh, fun u hu => ?_⟩
      have := hue u hu
      omega
end
/-! w54 -/
section
variable {P : Program} {w : World} {K : PySem.W.Frag} {mg : Str → Option Value} {base : Heap}
def tgW : List Str := ["artist", "b", "date", "title", "zz"]
def tgV : List Str := ["", "a value", "x ~ &"]
theorem tgW_ok : ∀ z ∈ tgW, z.length ≤ 16 ∧ WordOk z := by
  unfold WordOk
  decide +kernel
theorem tgV_ok : ∀ z ∈ tgV, z.length ≤ 16 ∧ LineOk z := by
  unfold LineOk
  decide +kernel
theorem tgW_asc : tgW.Pairwise fun a b => a.cps.toList < b.cps.toList := by decide +kernel
def sp_lw_tags : Sp := fun vs H Q _ => ∃ (G : Hp) (r : V) (ds : List Int) (k : Nat), Same G H ∧ vs = [r, .int k] ∧ Rp G r (IntsD ds) ∧ ds.length ≤ 4000 ∧ k ≤ 10000 ∧ Post G H Q fun v G' => ∃ tags : List TagT, Rp G' v (.list (tags.map TagD)) ∧ tags.length ≤ 5 ∧ (∀ t ∈ tags, TagOk t) ∧ TSort tags
theorem sc_lw_tags : FnScope n_lw_tags p_lw_tags (defScope s_lw_tags) := ⟨rfl, rfl, rfl, by decide +kernel, rfl, by decide +kernel, by decide +kernel⟩
theorem ok_lw_tags (T : Facts K mg) : FnOk P w K mg base CX0 2 (fA K "_law_tags") (fD K "_law_tags") p_lw_tags sp_lw_tags := by
  refine T.lw_tags.F.ok sc_lw_tags (fun vs H Q E h => ?_) (fun cdv A outer s H vs Q E hr h => ?_)
  · obtain ⟨G, r, ds, k, _, rfl, _⟩ := h
    rfl
  · obtain ⟨G, r, ds, k, sG, rfl, hr0, l1, l2, q⟩ := h
    obtain ⟨a, rfl, ha⟩ := hr0.ints
    refine ⟨_, PSs.nox (pss_cons (ps_set (i := 2) sc_lw_tags.nd rfl (.inl rfl) (pe_lst (pa_cons pe_str (pa_cons pe_str (pa_cons pe_str (pa_cons pe_str (pa_cons pe_str pa_nil)))))))
  (pss_cons (ps_set (i := 3) sc_lw_tags.nd rfl (.inl rfl) (pe_lst pa_nil))
  (pss_cons (ps_for PassesOwn.never rfl (pi_range1 rfl T.z_range (pa_cons pe_int pa_nil)) (pg_name (i := 4) sc_lw_tags.nd rfl (.inl rfl))
    (pss_one (ps_if (pt_cmpR op_eq (pe_call (ok_lw_mix T) (hr.mono (by decide)) (by rfl) T.lw_mix.g T.lw_mix.kp T.lw_mix.b .nil pass0 (pa_cons (pv 0) (pa_cons (pe_op op_add (pv 1) (pv 4)) (pa_cons pe_int pa_nil)))) pe_int (nomark _))
    (pss_one (ps_expr (pe_bm PySem.F.plainAttrs_list PySem.F.slot_list_append PySem.F.type_list_append mt_append (pv 3) (pa_cons (pe_tup (pa_cons (pe_ix ix_list (pv 2) (pv 4) (fun _ _ => rfl)) (pa_cons (pe_ix ix_list (pe_lst (pa_cons pe_str (pa_cons pe_str (pa_cons pe_str pa_nil)))) (pe_call (ok_lw_mix T) (hr.mono (by decide)) (by rfl) T.lw_mix.g T.lw_mix.kp T.lw_mix.b .nil pass0 (pa_cons (pv 0) (pa_cons (pe_op op_add (pe_op op_add (pv 1) pe_int) (pv 4)) (pa_cons pe_int pa_nil)))) (fun _ _ => rfl)) pa_nil))) pa_nil))))
    pss_nil)))
  (pss_one (ps_ret (pv 3)))))), ?_⟩
    have A : Adv0 G H G H := .refl sG
    walk_at "sp"
    refine ⟨line_le (by simp), S_newF A fun p1 G1 H1 A1 g1 hp1 _ => ?_⟩
    have hw1 : G1 p1 = some (.lst (tgW.map V.str)) := hp1
    walk_at "sp"
    refine ⟨Nat.zero_le _, S_newM A1 fun o H2 A2 co fo _ => ?_⟩
    walk_at "sp"
    refine S_rn1 (k := 5) rfl (by decide) (S_forR (fun j σ H3 => ∃ (x4 : Option V) (G3 : Hp) (vs : List V) (tags : List TagT), σ = [some (.ref a), some (.int k), some (.ref p1), some (.ref o), x4] ∧ Adv0 G H G3 H3 ∧ Same G1 G3 ∧ Cl No H G3 H3 o (.lst vs) ∧ RpL G3 vs (tags.map TagD) ∧ (tags.map (·.1)).Sublist (tgW.take j) ∧ ∀ t ∈ tags, t.2 ∈ tgV)
      ⟨none, G1, [], [], rfl, A2, .refl _, co, .nil, List.nil_sublist _, fun _ z => nomatch z⟩ ?_ ?_)
    · rintro j σ H3 hj ⟨x4, G3, vs, tags, rfl, A3, g13, co3, rl, sub, hv⟩
      have lvs := rl.len
      have lsub := sub.length_le
      rw [List.length_map] at lvs lsub
      rw [List.length_take] at lsub
      have eat : ((k : Nat) : Int) + (0 + (j : Nat)) = ((k + j : Nat) : Int) := by omega
      walk_at "sp"
      refine ⟨G3, .ref a, ds, k + j, 3, A3.gh, by rw [← eat]; rfl, hr0.mono A3.gg, by decide, by omega, by omega, fun v hv1 => ?_⟩
      by_cases c : v = 1
      · walk_at "sp"
        have hwj : tgW[j]? = some (tgW[j]'(by show j < 5; omega)) := List.getElem?_eq_getElem _
        generalize tgW[j]'(by show j < 5; omega) = word at hwj
        refine S_ixL (ql A3.gh (g13 _ _ hw1)) (atI_n (Int.zero_add _) (get_map hwj)) ?_
        walk_at "sp"
        refine ⟨line_le (by simp), S_newF A3 fun p4 G4 H4 A4 g4 hp4 mm => ?_⟩
        have co4 := mm _ _ co3
        clear mm
        walk_at "sp"
        refine ⟨G4, .ref a, ds, k + 5 + j, 3, A4.gh, ?_, hr0.mono A4.gg, by decide, by omega, by omega, fun v2 hv2 => ?_⟩
        · rw [show ((k + 5 + j : Nat) : Int) = (k : Nat) + 5 + (0 + (j : Nat)) by omega]
          rfl
        have hvv : tgV[v2]? = some (tgV[v2]'hv2) := List.getElem?_eq_getElem _
        generalize tgV[v2]'hv2 = val at hvv
        refine S_ixL (xs := tgV.map V.str) (ql A4.gh hp4) (atI_nat (get_map hvv)) ?_
        walk_at "sp"
        refine ⟨line_le (by simp), S_newF A4 fun p5 G5 H5 A5 g5 hp5 mm => ?_⟩
        have co5 := mm _ _ co4
        clear mm
        walk_at "sp"
        refine S_app' A5 co5 (by omega) fun H6 A6 co6 _ => ?_
        refine ⟨_, G5, _, tags ++ [(word, val)], rfl, A6, g13.trans (g4.trans g5), co6, ?_, ?_, fun t ht => ?_⟩
        · rw [List.map_append]
          exact (rl.mono (g4.trans g5)).snoc (.tup hp5 (.cons (.str _) (.cons (.str _) .nil)))
        · rw [List.map_append, take_snoc hwj]
          exact sub.append (List.Sublist.refl _)
        · rcases List.mem_append.mp ht with ht | ht
          · exact hv t ht
          · rw [List.mem_singleton.mp ht]
            exact List.mem_of_getElem? hvv
      · walk_at "sp"
        refine ⟨_, G3, _, tags, rfl, A3, g13, co3, rl, sub.trans ?_, hv⟩
        exact (List.take_prefix_take_left (by omega)).sublist
    · rintro σ H3 ⟨x4, G3, vs, tags, rfl, A3, g13, co3, rl, sub, hv⟩
      walk_at "sp"
      have sub' : (tags.map (·.1)).Sublist tgW := sub
      refine q _ _ _ (A3.still fo co3.h co3.g) ⟨tags, .lst upd_same (rl.mono (same_new co3.g)), ?_, fun t ht => ?_, tsort_of ?_⟩
      · have := sub'.length_le
        rw [List.length_map] at this
        exact this
      · have h1 := tgW_ok _ (sub'.subset (List.mem_map.mpr ⟨t, ht, rfl⟩))
        have h2 := tgV_ok _ (hv t ht)
        exact ⟨⟨h1.1, h2.1⟩, h1.2, h2.2⟩
      · have h3 := tgW_asc.sublist sub'
        rw [List.pairwise_map] at h3
        exact h3
end
/-! w55 -/
section
variable {P : Program} {w : World} {K : PySem.W.Frag} {mg : Str → Option Value} {base : Heap}
def nmL : List Str := ["", "main", "side A", "~"]
def kdL : List Str := ["text", "sound", "a"]
theorem nmL_ok : ∀ z ∈ nmL, z.length ≤ 32 ∧ LineOk z := by
  unfold LineOk
  decide +kernel
theorem kdL_ok : ∀ z ∈ kdL, WordOk z := by
  unfold WordOk
  decide +kernel
def nkL (ds : List Int) (al : Nat) : List (Str × Str) := (List.range (mixF ds al 4)).map fun j => (nmL.getD (mixF ds (al + 1 + j) 4) "", kdL.getD (mixF ds (al + 4 + j) 3) "")
structure LwP (ds : List Int) (al : Nat) (p : Pr) : Prop where
  ok : PrOk p
  ticks : p.ticks = 1 + mixF ds (al + 8) 90000
  nk : nkP p = nkL ds al
  len : p.tracks.length ≤ 3
  us : ∀ t ∈ p.tracks, t.units.length ≤ 7 ∧ ∀ u ∈ t.units, u.time + u.span ≤ 274877906944 + 6000 * 8
  tagsL : p.tags.length ≤ 5
def sp_lw_presentation : Sp := fun vs H Q _ => ∃ (G : Hp) (r : V) (ds : List Int) (k al : Nat), Same G H ∧ vs = [r, .int k, .int al] ∧ Rp G r (IntsD ds) ∧ ds.length ≤ 4000 ∧ k ≤ 1000 ∧ al ≤ 1000 ∧ Post G H Q fun v G' => ∃ p, Rp G' v (PrD p) ∧ LwP ds al p
theorem sc_lw_presentation : FnScope n_lw_presentation p_lw_presentation (defScope s_lw_presentation) := ⟨rfl, rfl, rfl, by decide +kernel, rfl, by decide +kernel, by decide +kernel⟩
theorem ok_lw_presentation (T : Facts K mg) : FnOk P w K mg base CX0 4 (fA K "_law_presentation") (fD K "_law_presentation") p_lw_presentation sp_lw_presentation := by
  refine T.lw_presentation.F.ok sc_lw_presentation (fun vs H Q E h => ?_) (fun cdv A outer s H vs Q E hr h => ?_)
  · obtain ⟨G, r, ds, k, al, _, rfl, _⟩ := h
    rfl
  · obtain ⟨G, r, ds, k, al, sG, rfl, hr0, l1, l2, l3, q⟩ := h
    obtain ⟨a, rfl, ha⟩ := hr0.ints
    refine ⟨_, PSs.nox (pss_cons (ps_set (i := 3) sc_lw_presentation.nd rfl (.inl rfl) (pe_lst (pa_cons pe_str (pa_cons pe_str (pa_cons pe_str (pa_cons pe_str pa_nil))))))
  (pss_cons (ps_set (i := 4) sc_lw_presentation.nd rfl (.inl rfl) (pe_lst (pa_cons pe_str (pa_cons pe_str (pa_cons pe_str pa_nil)))))
  (pss_cons (ps_set (i := 5) sc_lw_presentation.nd rfl (.inl rfl) (pe_lst pa_nil))
  (pss_cons (ps_for PassesOwn.never rfl (pi_range1 rfl T.z_range (pa_cons (pe_call (ok_lw_mixD T) (hr.mono (by decide)) (by rfl) T.lw_mix.g T.lw_mix.kp T.lw_mix.b .nil pass0 (pa_cons (pv 0) (pa_cons (pv 2) (pa_cons pe_int pa_nil)))) pa_nil)) (pg_name (i := 6) sc_lw_presentation.nd rfl (.inl rfl))
    (pss_cons (ps_set (i := 7) sc_lw_presentation.nd rfl (.inl rfl) (pe_call (ok_lw_units T) (hr.mono (by decide)) (by rfl) T.lw_units.g T.lw_units.kp T.lw_units.b .nil pass0 (pa_cons (pv 0) (pa_cons (pe_op op_add (pe_op op_add (pv 1) pe_int) (pe_op op_mul pe_int (pv 6))) (pa_cons (pe_call (ok_lw_mixD T) (hr.mono (by decide)) (by rfl) T.lw_mix.g T.lw_mix.kp T.lw_mix.b .nil pass0 (pa_cons (pv 0) (pa_cons (pe_op op_add (pe_op op_add (pv 1) pe_int) (pv 6)) (pa_cons pe_int pa_nil)))) pa_nil)))))
  (pss_one (ps_expr (pe_bm PySem.F.plainAttrs_list PySem.F.slot_list_append PySem.F.type_list_append mt_append (pv 5) (pa_cons (pe_tup (pa_cons (pe_ix ix_list (pv 3) (pe_call (ok_lw_mixD T) (hr.mono (by decide)) (by rfl) T.lw_mix.g T.lw_mix.kp T.lw_mix.b .nil pass0 (pa_cons (pv 0) (pa_cons (pe_op op_add (pe_op op_add (pv 2) pe_int) (pv 6)) (pa_cons pe_int pa_nil)))) (fun _ _ => rfl)) (pa_cons (pe_ix ix_list (pv 4) (pe_call (ok_lw_mixD T) (hr.mono (by decide)) (by rfl) T.lw_mix.g T.lw_mix.kp T.lw_mix.b .nil pass0 (pa_cons (pv 0) (pa_cons (pe_op op_add (pe_op op_add (pv 2) pe_int) (pv 6)) (pa_cons pe_int pa_nil)))) (fun _ _ => rfl)) (pa_cons (pv 7) pa_nil)))) pa_nil))))))
  (pss_cons (ps_set (i := 8) sc_lw_presentation.nd rfl (.inl rfl) (pe_ix ix_list (pe_lst (pa_cons pe_int (pa_cons pe_int (pa_cons (pe_call (ok_lw_mixD T) (hr.mono (by decide)) (by rfl) T.lw_mix.g T.lw_mix.kp T.lw_mix.b .nil pass0 (pa_cons (pv 0) (pa_cons (pe_op op_add (pv 1) pe_int) (pa_cons pe_int pa_nil)))) pa_nil)))) (pe_call (ok_lw_mixD T) (hr.mono (by decide)) (by rfl) T.lw_mix.g T.lw_mix.kp T.lw_mix.b .nil pass0 (pa_cons (pv 0) (pa_cons (pe_op op_add (pv 1) pe_int) (pa_cons pe_int pa_nil)))) (fun _ _ => rfl)))
  (pss_one (ps_ret (pe_tup (pa_cons (pe_op op_add pe_int (pe_call (ok_lw_mixD T) (hr.mono (by decide)) (by rfl) T.lw_mix.g T.lw_mix.kp T.lw_mix.b .nil pass0 (pa_cons (pv 0) (pa_cons (pe_op op_add (pv 2) pe_int) (pa_cons pe_int pa_nil))))) (pa_cons (pv 8) (pa_cons (pv 5) (pa_cons (pe_call (ok_lw_tags T) (hr.mono (by decide)) (by rfl) T.lw_tags.g T.lw_tags.kp T.lw_tags.b .nil pass0 (pa_cons (pv 0) (pa_cons (pe_op op_add (pv 1) pe_int) pa_nil))) pa_nil)))))))))))), ?_⟩
    have A : Adv0 G H G H := .refl sG
    walk_at "sp"
    refine ⟨line_le (by simp), S_newF A fun p1 G1 H1 A1 g1 hp1 _ => ?_⟩
    have hn1 : G1 p1 = some (.lst (nmL.map V.str)) := hp1
    walk_at "sp"
    refine ⟨line_le (by simp), S_newF A1 fun p2 G2 H2 A2 g2 hp2 _ => ?_⟩
    have hk2 : G2 p2 = some (.lst (kdL.map V.str)) := hp2
    have hn2 := g2 _ _ hn1
    walk_at "sp"
    refine ⟨Nat.zero_le _, S_newM A2 fun o H3 A3 co fo _ => ?_⟩
    walk_at "sp"
    refine ⟨G2, .ref a, ds, al, 4, A3.gh, rfl, hr0.mono A3.gg, by decide, by omega, by omega, ?_⟩
    have hm4 := mixF_lt ds al (n := 4) (by decide)
    have enk : nkL ds al = (List.range (mixF ds al 4)).map fun j => (nmL.getD (mixF ds (al + 1 + j) 4) "", kdL.getD (mixF ds (al + 4 + j) 3) "") := rfl
    generalize mixF ds al 4 = nt at hm4 enk
    walk_at "sp"
    refine S_rn1 (k := nt) rfl (by omega) (S_forR (fun j σ H4 => ∃ (x6 x7 x8 : Option V) (G4 : Hp) (vs : List V) (ts : List Tk), σ = [some (.ref a), some (.int k), some (.int al), some (.ref p1), some (.ref p2), some (.ref o), x6, x7, x8] ∧ Adv0 G H G4 H4 ∧ Same G2 G4 ∧ Cl No H G4 H4 o (.lst vs) ∧ RpL G4 vs (ts.map TkD) ∧ ts.length = j ∧
        ts.map (fun t => (t.name, t.kind)) = (nkL ds al).take j ∧ ∀ t ∈ ts, TkOk t ∧ t.units.length ≤ 7 ∧ ∀ u ∈ t.units, u.time + u.span ≤ 274877906944 + 6000 * 8)
      ⟨none, none, none, G2, [], [], rfl, A3, .refl _, co, .nil, rfl, by simp, fun _ z => nomatch z⟩ ?_ ?_)
    · rintro j σ H4 hj ⟨x6, x7, x8, G4, vs, ts, rfl, A4, g24, co4, rl, hts, hnk, hok⟩
      have lvs := rl.len
      rw [List.length_map] at lvs
      have hnkj : (nkL ds al)[j]? = some (nmL.getD (mixF ds (al + 1 + j) 4) "", kdL.getD (mixF ds (al + 4 + j) 3) "") := by
        rw [enk, List.getElem?_map, List.getElem?_range hj]
        rfl
      walk_at "sp"
      refine S_ri (.inl ⟨by decide, by decide⟩) ?_
      refine S_ri0 ?_
      rw [show ((k : Nat) : Int) + 20 + 97 * (0 + (j : Nat)) = ((k + 20 + 97 * j : Nat) : Int) by omega]
      walk_at "sp"
      refine ⟨G4, .ref a, ds, k + 1 + j, 8, A4.gh, ?_, hr0.mono A4.gg, by decide, by omega, by omega, ?_⟩
      · rw [show ((k + 1 + j : Nat) : Int) = (k : Nat) + 1 + (0 + (j : Nat)) by omega]
        rfl
      have hm8 := mixF_lt ds (k + 1 + j) (n := 8) (by decide)
      walk_at "sp"
      refine ⟨G4, .ref a, ds, k + 20 + 97 * j, mixF ds (k + 1 + j) 8, A4.gh, rfl, hr0.mono A4.gg, l1, by omega, hm8, fun v5 G5 H5 B5 ⟨us, rv5, hul, huo, huh, hue⟩ => ?_⟩
      have A5 := A4.call B5
      have co5 := co4.call B5
      walk_at "sp"
      refine ⟨G5, .ref a, ds, al + 1 + j, 4, A5.gh, ?_, hr0.mono A5.gg, by decide, by omega, by omega, ?_⟩
      · rw [show ((al + 1 + j : Nat) : Int) = (al : Nat) + 1 + (0 + (j : Nat)) by omega]
        rfl
      have hmn := mixF_lt ds (al + 1 + j) (n := 4) (by decide)
      have hnm : nmL[mixF ds (al + 1 + j) 4]? = some (nmL.getD (mixF ds (al + 1 + j) 4) "") := by
        rw [List.getD_eq_getElem?_getD, List.getElem?_eq_getElem (show _ < nmL.length from hmn)]
        rfl
      generalize mixF ds (al + 1 + j) 4 = i1 at hmn hnm hnkj
      refine S_ixL (ql A5.gh (B5.gg _ _ (g24 _ _ hn2))) (atI_nat (get_map hnm)) ?_
      walk_at "sp"
      refine ⟨G5, .ref a, ds, al + 4 + j, 3, A5.gh, ?_, hr0.mono A5.gg, by decide, by omega, by omega, ?_⟩
      · rw [show ((al + 4 + j : Nat) : Int) = (al : Nat) + 4 + (0 + (j : Nat)) by omega]
        rfl
      have hmk := mixF_lt ds (al + 4 + j) (n := 3) (by decide)
      have hkd : kdL[mixF ds (al + 4 + j) 3]? = some (kdL.getD (mixF ds (al + 4 + j) 3) "") := by
        rw [List.getD_eq_getElem?_getD, List.getElem?_eq_getElem (show _ < kdL.length from hmk)]
        rfl
      generalize mixF ds (al + 4 + j) 3 = i2 at hmk hkd hnkj
      refine S_ixL (ql A5.gh (B5.gg _ _ (g24 _ _ hk2))) (atI_nat (get_map hkd)) ?_
      walk_at "sp"
      refine ⟨line_le (by simp), S_newF A5 fun p6 G6 H6 A6 g6 hp6 mm => ?_⟩
      have co6 := mm _ _ co5
      clear mm
      walk_at "sp"
      refine S_app' A6 co6 (by omega) fun H7 A7 co7 _ => ?_
      have hn := nmL_ok _ (List.mem_of_getElem? hnm)
      have hk := kdL_ok _ (List.mem_of_getElem? hkd)
      refine ⟨_, _, _, G6, _, ts ++ [⟨nmL.getD i1 "", kdL.getD i2 "", us⟩], rfl, A7, g24.trans (B5.gg.trans g6), co7, ?_, ?_, ?_, fun t ht => ?_⟩
      · rw [List.map_append]
        exact (rl.mono (B5.gg.trans g6)).snoc (.tup hp6 (.cons (.str _) (.cons (.str _) (.cons (rv5.mono g6) .nil))))
      · rw [List.length_append, hts]
        rfl
      · rw [List.map_append, hnk, take_snoc hnkj]
        rfl
      · rcases List.mem_append.mp ht with ht | ht
        · exact hok t ht
        · rw [List.mem_singleton.mp ht]
          exact ⟨⟨hn.2, hn.1, hk, by show us.length ≤ 300; omega, huo, huh⟩, by show us.length ≤ 7; omega, hue⟩
    · rintro σ H4 ⟨x6, x7, x8, G4, vs, ts, rfl, A4, g24, co4, rl, hts, hnk, hok⟩
      rw [List.take_of_length_le (by rw [enk, List.length_map, List.length_range]; exact Nat.le_refl _)] at hnk
      have A5 := A4.still fo co4.h co4.g
      have g45 := same_new (u := HO.lst vs) co4.g
      have htr : Rp (upd G4 o (.lst vs)) (.ref o) (.list (ts.map TkD)) := .lst upd_same (rl.mono g45)
      generalize upd G4 o (HO.lst vs) = G5 at A5 g45 htr
      walk_at "sp"
      refine ⟨G5, .ref a, ds, k + 5, 30, A5.gh, rfl, hr0.mono A5.gg, by decide, by omega, by omega, ?_⟩
      have hm30 := mixF_lt ds (k + 5) (n := 30) (by decide)
      generalize mixF ds (k + 5) 30 = s30 at hm30
      walk_at "sp"
      refine ⟨line_le (by simp), S_newF A5 fun p6 G6 H6 A6 g6 hp6 _ => ?_⟩
      walk_at "sp"
      refine ⟨G6, .ref a, ds, k + 6, 3, A6.gh, rfl, hr0.mono A6.gg, by decide, by omega, by omega, ?_⟩
      have hm3 := mixF_lt ds (k + 6) (n := 3) (by decide)
      generalize mixF ds (k + 6) 3 = i3 at hm3
      obtain ⟨sk, hsk, hsk2⟩ : ∃ sk : Nat, ([V.int 0, .int 0, .int s30] : List V)[i3]? = some (.int sk) ∧ sk < 30 := by
        match i3, hm3 with
        | 0, _ => exact ⟨0, rfl, by omega⟩
        | 1, _ => exact ⟨0, rfl, by omega⟩
        | 2, _ => exact ⟨s30, rfl, hm30⟩
      refine S_ixL (ql A6.gh hp6) (atI_nat hsk) ?_
      walk_at "sp"
      refine ⟨G6, .ref a, ds, al + 8, 90000, A6.gh, rfl, hr0.mono A6.gg, by decide, by omega, by omega, ?_⟩
      have hmt := mixF_lt ds (al + 8) (n := 90000) (by decide)
      walk_at "sp"
      refine ⟨G6, .ref a, ds, k + 8, A6.gh, rfl, hr0.mono A6.gg, l1, by omega, fun v7 G7 H7 B7 ⟨tags, rv7, htl, htok, hts2⟩ => ?_⟩
      have A7 := A6.call B7
      walk_at "sp"
      refine ⟨line_le (by simp), S_newF A7 fun p8 G8 H8 A8 g8 hp8 _ => ?_⟩
      refine q _ _ _ A8 ⟨⟨1 + mixF ds (al + 8) 90000, sk, ts, tags⟩, .tup hp8 (.cons ?_ (.cons (.int _) (.cons (htr.mono (g6.trans (B7.gg.trans g8))) (.cons (rv7.mono g8) .nil)))), ⟨⟨⟨?_, ?_⟩, ?_, ?_, fun t ht => (hok t ht).1, ?_, htok, hts2⟩, rfl, hnk, ?_, fun t ht => (hok t ht).2, htl⟩⟩
      · show Rp G8 _ (.int ((1 + mixF ds (al + 8) 90000 : Nat) : Int))
        rw [Int.natCast_add]
        exact .int _
      · show 1 ≤ 1 + mixF ds (al + 8) 90000
        omega
      · show 1 + mixF ds (al + 8) 90000 ≤ 90000
        omega
      · show sk < _
        omega
      · show ts.length ≤ 15
        omega
      · show tags.length ≤ 10
        omega
      · show ts.length ≤ 3
        omega
end
/-! w56 -/
section
/-! ### the law in plain words -/
def shUn (e : Nat) (u : Un) : Un := ⟨u.time + e, u.span, u.content, u.leans⟩
def dnU (b : Nat) (u : Un) : Un := ⟨u.time - b, u.span, u.content, u.leans⟩
def joinU (e : Nat) (a b : List (List Un)) : List (List Un) := List.zipWith (fun x y => x ++ y.map (shUn e)) a b
theorem encU_sh {e : Nat} : ∀ {us : List Un} {b : List Int}, encU b (us.map (shUn e)) = (encU b us).map (shM e)
  | [], _ => rfl
  | u :: us, b => by
    rw [List.map_cons, encU, encU, List.map_cons]
    exact congr (congrArg List.cons rfl) encU_sh
theorem encU_dn {e : Nat} : ∀ {us : List Un} {b : List Int}, encU b (us.map (dnU e)) = (encU b us).map (shD e)
  | [], _ => rfl
  | u :: us, b => by
    rw [List.map_cons, encU, encU, List.map_cons]
    exact congr (congrArg List.cons rfl) encU_dn
theorem encU_free {us : List Un} (h : Hd0 us) (b b' : List Int) : encU b us = encU b' us := by
  cases us with
  | nil => rfl
  | cons u us =>
    have hu : u.leans = false := h u rfl
    rw [encU, encU]
    congr 1
    unfold mvOf encB
    rw [hu]
    rfl
theorem encU_app {y : List Un} (h : Hd0 y) : ∀ {x : List Un} {b : List Int}, encU b (x ++ y) = encU b x ++ encU [] y
  | [], b => encU_free h _ _
  | u :: x, b => by rw [List.cons_append, encU, encU, encU_app h, List.cons_append]
theorem hd0_map {f : Un → Un} (hf : ∀ u, (f u).leans = u.leans) {y : List Un} (h : Hd0 y) : Hd0 (y.map f) := fun u hu => by
  rw [List.getElem?_map] at hu
  obtain ⟨v, hv, rfl⟩ := Option.map_eq_some_iff.mp hu
  rw [hf]
  exact h v hv
theorem joinU_enc {e : Nat} : ∀ {a b : List (List Un)}, (∀ y ∈ b, Hd0 y) → joinM e (a.map (encU [])) (b.map (encU [])) = (joinU e a b).map (encU [])
  | [], _, _ => by simp [joinM, joinU]
  | _ :: _, [], _ => by simp [joinM, joinU]
  | x :: a, y :: b, h => by
    have ih := joinU_enc (e := e) (a := a) (b := b) fun z hz => h z (List.mem_cons_of_mem _ hz)
    rw [joinM, joinU] at ih ⊢
    rw [List.map_cons, List.map_cons, List.zipWith_cons_cons, List.zipWith_cons_cons, List.map_cons, ih, encU_app (hd0_map (f := shUn e) (fun _ => rfl) (h y List.mem_cons_self)), encU_sh]
theorem UOk.sub {ms ms' : List Un} (h : ms'.Sublist ms) : ∀ {l : Nat}, UOk l ms → UOk l ms' := by
  have mono : ∀ {y : List Un} {l l' : Nat}, l' ≤ l → UOk l y → UOk l' y := fun {y l l'} h o => by
    cases y with
    | nil => exact True.intro
    | cons u y => exact ⟨Nat.le_trans h o.1, o.2⟩
  induction h with
  | slnil => exact fun o => o
  | cons m _ ih =>
    intro l o
    obtain ⟨o1, o2, o3, o4, o5, o6, o7⟩ := o
    exact mono (by omega) (ih o7)
  | cons_cons m _ ih =>
    intro l o
    obtain ⟨o1, o2, o3, o4, o5, o6, o7⟩ := o
    exact ⟨o1, o2, o3, o4, o5, o6, ih o7⟩
theorem UOk.ge : ∀ {us : List Un} {l : Nat}, UOk l us → ∀ u ∈ us, l ≤ u.time ∧ 1 ≤ u.span
  | [], _, _, _, h => nomatch h
  | v :: us, l, ⟨o1, o2, o3, o4, o5, o6, o7⟩, u, hu => by
    rcases List.mem_cons.mp hu with rfl | hu
    · exact ⟨o1, o3⟩
    · have := UOk.ge o7 u hu
      exact ⟨by omega, this.2⟩
theorem UOk.at1 {us : List Un} {l i : Nat} {u : Un} (o : UOk l us) (h : us[i + 1]? = some u) : l + 1 ≤ u.time := by
  cases us with
  | nil => simp at h
  | cons v us =>
    obtain ⟨o1, o2, o3, o4, o5, o6, o7⟩ := o
    have := (o7.ge u (List.mem_of_getElem? (by rw [List.getElem?_cons_succ] at h; exact h))).1
    omega
theorem UOk.shift {e : Nat} : ∀ {y : List Un} {l : Nat}, UOk l y → (∀ u ∈ y, u.time + e < 1099511627776) → UOk (l + e) (y.map (shUn e))
  | [], _, _, _ => True.intro
  | u :: y, l, o, h => by
    obtain ⟨o1, o2, o3, o4, o5, o6, o7⟩ := o
    have ih := UOk.shift o7 fun x hx => h x (List.mem_cons_of_mem _ hx)
    refine ⟨by show l + e ≤ u.time + e; omega, h u List.mem_cons_self, o3, o4, o5, o6, ?_⟩
    show UOk (u.time + e + u.span) _
    rw [show u.time + e + u.span = u.time + u.span + e by omega]
    exact ih
theorem UOk.app {e : Nat} {y : List Un} (hy : UOk e y) : ∀ {x : List Un} {l : Nat}, UOk l x → l ≤ e → (∀ m ∈ x, m.time + m.span ≤ e) → UOk l (x ++ y)
  | [], l, _, hl, _ => by
    cases y with
    | nil => exact True.intro
    | cons u y => exact ⟨Nat.le_trans hl hy.1, hy.2⟩
  | m :: x, l, ⟨o1, o2, o3, o4, o5, o6, o7⟩, hl, h => ⟨o1, o2, o3, o4, o5, o6, UOk.app hy o7 (h m List.mem_cons_self) fun n hn => h n (List.mem_cons_of_mem _ hn)⟩
theorem encU_drop : ∀ {us : List Un} {b : List Int} {k : Nat}, ∃ b', (encU b us).drop k = encU b' (us.drop k)
  | us, b, 0 => ⟨b, rfl⟩
  | [], b, k + 1 => ⟨b, rfl⟩
  | u :: us, b, k + 1 => by
    rw [encU, List.drop_succ_cons, List.drop_succ_cons]
    exact encU_drop
theorem encU_filter {t : Int} : ∀ {us : List Un} {l : Nat} {b : List Int}, UOk l us → (encU b us).filter (fun m => decide ((m.time : Int) < t)) = encU b (us.filter fun u => decide ((u.time : Int) < t))
  | [], _, _, _ => rfl
  | u :: us, l, b, o => by
    obtain ⟨o1, o2, o3, o4, o5, o6, o7⟩ := o
    rw [encU, List.filter_cons, List.filter_cons]
    by_cases c : (u.time : Int) < t
    · rw [if_pos (by exact decide_eq_true c), if_pos (decide_eq_true c), encU, encU_filter o7]
    · have h1 : ∀ m ∈ encU u.content us, ¬ ((m.time : Int) < t) := fun m hm => by
        have hm2 : ∃ v ∈ us, m.time = v.time := by
          obtain ⟨j, hj⟩ := List.mem_iff_getElem?.mp hm
          have hl := (List.getElem?_eq_some_iff.mp hj).1
          rw [encU_len] at hl
          have := encU_get us u.content j us[j] (List.getElem?_eq_getElem hl)
          rw [hj] at this
          exact ⟨us[j], List.getElem_mem _, by rw [Option.some.inj this]; rfl⟩
        obtain ⟨v, hv, e⟩ := hm2
        have := (o7.ge v hv).1
        omega
      have h2 : ∀ v ∈ us, ¬ ((v.time : Int) < t) := fun v hv => by
        have := (o7.ge v hv).1
        omega
      rw [if_neg (by intro z; exact c (of_decide_eq_true z)), if_neg (by intro z; exact c (of_decide_eq_true z)), List.filter_eq_nil_iff.mpr fun m hm z => h1 m hm (of_decide_eq_true z), List.filter_eq_nil_iff.mpr fun m hm z => h2 m hm (of_decide_eq_true z)]
      rfl
def fstU (s : Int) (us : List Un) : Nat := fstM s 0 0 (encU [] us)
def takU (s t : Int) (us : List Un) : List Un := (us.drop (fstU s us)).filter fun u => decide ((u.time : Int) < t)
def cutU (s t : Int) (b : Nat) (us : List Un) : List Un := (takU s t us).map (dnU b)
theorem fst_hd0 {s : Int} {us : List Un} (h : Hd0 us) : Hd0 (us.drop (fstU s us)) := fun u hu => by
  rw [List.getElem?_drop, Nat.add_zero] at hu
  rcases fstM_key (s := s) (ls := encU [] us) (i := 0) (c := 0) with e | ⟨j, m, e1, e2, e3, _⟩
  · rw [fstU, e] at hu
    exact h u hu
  · rw [fstU, e1, Nat.zero_add] at hu
    rw [encU_get us [] j u hu] at e2
    rw [← Option.some.inj e2] at e3
    cases hl : u.leans with
    | false => rfl
    | true =>
      have e4 : (if u.leans = true then 0 else 1) = 1 := e3
      rw [hl] at e4
      simp at e4
theorem takU_enc {s t : Int} {us : List Un} {l : Nat} (o : UOk l us) (h : Hd0 us) : takM (encU [] us) s t = encU [] (takU s t us) := by
  obtain ⟨b', hb⟩ := encU_drop (us := us) (b := []) (k := fstU s us)
  rw [takM, takU]
  show ((encU [] us).drop (fstU s us)).filter _ = _
  rw [hb, encU_free (fst_hd0 h) b' [], encU_filter (o.sub (List.drop_sublist ..))]
theorem cutU_enc {s t : Int} {b : Nat} {uss : List (List Un)} (o : ∀ us ∈ uss, UOk 0 us ∧ Hd0 us) : cutM s t b (uss.map (encU [])) = (uss.map (cutU s t b)).map (encU []) := by
  rw [cutM, List.map_map, List.map_map]
  refine List.map_congr_left fun us hus => ?_
  obtain ⟨h1, h2⟩ := o us hus
  show (takM (encU [] us) s t).map (shD b) = encU [] (cutU s t b us)
  rw [takU_enc h1 h2, cutU, encU_dn]
/-! what is shown -/
theorem sh_one {x y : List Un} {e sk : Nat} (hx : ∀ u ∈ x, u.time + u.span ≤ e) : shU sk (some (e : Int)) (x ++ y.map (shUn e)) = shU sk (some (e : Int)) x := by
  rw [shU, shU, List.filter_append]
  have : (y.map (shUn e)).filter (inS sk (some (e : Int))) = [] := List.filter_eq_nil_iff.mpr fun u hu z => by
    obtain ⟨v, _, rfl⟩ := List.mem_map.mp hu
    have z2 := (Bool.and_eq_true_iff.mp z).2
    have : ((v.time + e : Nat) : Int) < e := of_decide_eq_true z2
    omega
  rw [this, List.append_nil]
theorem sh_two {x y : List Un} {e : Nat} {s : Int} (hx : ∀ u ∈ x, u.time + u.span ≤ e) (hs : (e : Int) ≤ s) : shU s none (x ++ y.map (shUn e)) = shU (s - e) none y := by
  rw [shU, shU, List.filter_append]
  have h1 : x.filter (inS s none) = [] := List.filter_eq_nil_iff.mpr fun u hu z => by
    have z2 := (Bool.and_eq_true_iff.mp z).1
    have : s < (u.time : Int) + u.span := of_decide_eq_true z2
    have := hx u hu
    omega
  rw [h1, List.nil_append, List.filter_map, List.map_map]
  have h2 : (inS s none ∘ shUn e) = inS (s - e) none := by
    funext u
    show (decide (s < ((u.time + e : Nat) : Int) + u.span) && true) = (decide (s - e < (u.time : Int) + u.span) && true)
    congr 1
    exact decide_eq_decide.mpr (by omega)
  rw [h2]
  refine List.map_congr_left fun u _ => ?_
  show (((u.time + e : Nat) : Int) - s, u.span, u.content) = ((u.time : Int) - (s - e), u.span, u.content)
  congr 1
  omega
theorem fst_le {x y : List Un} {e : Nat} (oy : UOk 0 y) : fstU (e : Int) (x ++ y.map (shUn e)) ≤ x.length := by
  rcases fstM_key (s := (e : Int)) (ls := encU [] (x ++ y.map (shUn e))) (i := 0) (c := 0) with h | ⟨j, m, h1, h2, _, h4⟩
  · rw [fstU, h]
    exact Nat.zero_le _
  · rw [fstU, h1, Nat.zero_add]
    refine Decidable.byContradiction fun c => ?_
    have hj := (List.getElem?_eq_some_iff.mp h2).1
    rw [encU_len, List.length_append, List.length_map] at hj
    obtain ⟨i, rfl⟩ : ∃ i, j = x.length + (i + 1) := ⟨j - x.length - 1, by omega⟩
    have hy : y[i + 1]? = some (y[i + 1]'(by omega)) := List.getElem?_eq_getElem (by omega)
    generalize y[i + 1]'(by omega) = u at hy
    have hz : (x ++ y.map (shUn e))[x.length + (i + 1)]? = some (shUn e u) := by
      rw [List.getElem?_append_right (by omega), Nat.add_sub_cancel_left, List.getElem?_map, hy]
      rfl
    rw [encU_get _ [] _ _ hz] at h2
    rw [← Option.some.inj h2] at h4
    have h5 : ((u.time + e : Nat) : Int) ≤ e := h4
    have := oy.at1 hy
    omega
theorem sh_cut {x y : List Un} {e b s : Nat} (hx : ∀ u ∈ x, u.time + u.span ≤ e) (oy : UOk 0 y) (hb : b ≤ e) (hbt : ∀ u ∈ takU (e : Int) ((e + s : Nat) : Int) (x ++ y.map (shUn e)), b ≤ u.time) :
    shU ((e - b : Nat) : Int) none (cutU (e : Int) ((e + s : Nat) : Int) b (x ++ y.map (shUn e))) = shU 0 (some (s : Int)) y := by
  have hk := fst_le (x := x) (e := e) oy
  rw [cutU]
  rw [takU, List.drop_append_of_le_length hk, List.filter_append] at hbt ⊢
  have h1 : (((x.drop (fstU (e : Int) (x ++ y.map (shUn e)))).filter fun u => decide ((u.time : Int) < ((e + s : Nat) : Int))).map (dnU b)).filter (inS ((e - b : Nat) : Int) none) = [] := List.filter_eq_nil_iff.mpr fun u hu z => by
    obtain ⟨v, hv, rfl⟩ := List.mem_map.mp hu
    have k1 := hbt v (List.mem_append_left _ hv)
    have k2 := hx v (List.mem_of_mem_drop (List.mem_filter.mp hv).1)
    have z2 := (Bool.and_eq_true_iff.mp z).1
    have z3 : ((e - b : Nat) : Int) < ((v.time - b : Nat) : Int) + v.span := of_decide_eq_true z2
    omega
  rw [shU, shU, List.map_append, List.filter_append, h1, List.nil_append, List.filter_map, List.map_map, List.filter_map, List.filter_map, List.map_map]
  have h2 : y.filter ((fun u => decide ((u.time : Int) < ((e + s : Nat) : Int))) ∘ shUn e) = y.filter (inS 0 (some (s : Int))) := List.filter_congr fun u hu => by
    have := (oy.ge u hu).2
    show decide (((u.time + e : Nat) : Int) < ((e + s : Nat) : Int)) = (decide (0 < (u.time : Int) + u.span) && decide ((u.time : Int) < s))
    rw [decide_eq_true (show 0 < (u.time : Int) + u.span by omega), Bool.true_and]
    exact decide_eq_decide.mpr (by omega)
  rw [← h2, List.filter_filter]
  have h3 : (y.filter fun a => ((inS ((e - b : Nat) : Int) none ∘ dnU b) ∘ shUn e) a && ((fun u => decide ((u.time : Int) < ((e + s : Nat) : Int))) ∘ shUn e) a) = y.filter ((fun u => decide ((u.time : Int) < ((e + s : Nat) : Int))) ∘ shUn e) := List.filter_congr fun u hu => by
    have := (oy.ge u hu).2
    show ((decide (((e - b : Nat) : Int) < ((u.time + e - b : Nat) : Int) + u.span) && true) && _) = _
    rw [decide_eq_true (by omega)]
    rfl
  rw [h3]
  refine List.map_congr_left fun u hu => ?_
  have := of_decide_eq_true (List.mem_filter.mp hu).2
  show (((u.time + e - b : Nat) : Int) - ((e - b : Nat) : Int), u.span, u.content) = ((u.time : Int) - 0, u.span, u.content)
  congr 1
  omega
end
/-! w57 -/
section
theorem joinU_mapL {β : Type} {f g : List Un → β} {e : Nat} : ∀ {a b : List (List Un)}, a.length = b.length → (∀ x ∈ a, ∀ y ∈ b, f (x ++ y.map (shUn e)) = g x) → (joinU e a b).map f = a.map g
  | [], [], _, _ => rfl
  | x :: a, y :: b, h, k => by
    have ih := joinU_mapL (a := a) (b := b) (by simpa using h) fun x hx y hy => k x (List.mem_cons_of_mem _ hx) y (List.mem_cons_of_mem _ hy)
    rw [joinU] at ih ⊢
    rw [List.zipWith_cons_cons, List.map_cons, List.map_cons, ih, k x List.mem_cons_self y List.mem_cons_self]
theorem joinU_mapR {β : Type} {f g : List Un → β} {e : Nat} : ∀ {a b : List (List Un)}, a.length = b.length → (∀ x ∈ a, ∀ y ∈ b, x ++ y.map (shUn e) ∈ joinU e a b → f (x ++ y.map (shUn e)) = g y) → (joinU e a b).map f = b.map g
  | [], [], _, _ => rfl
  | x :: a, y :: b, h, k => by
    have ih := joinU_mapR (a := a) (b := b) (by simpa using h) fun x hx y hy hm => k x (List.mem_cons_of_mem _ hx) y (List.mem_cons_of_mem _ hy) (by rw [joinU, List.zipWith_cons_cons]; exact List.mem_cons_of_mem _ hm)
    have k0 := k x List.mem_cons_self y List.mem_cons_self (by rw [joinU, List.zipWith_cons_cons]; exact List.mem_cons_self)
    rw [joinU] at ih ⊢
    rw [List.zipWith_cons_cons, List.map_cons, List.map_cons, ih, k0]
theorem joinU_mem {e : Nat} {a b : List (List Un)} {z : List Un} (h : z ∈ joinU e a b) : ∃ x y, x ∈ a ∧ y ∈ b ∧ z = x ++ y.map (shUn e) := by
  obtain ⟨i, hi⟩ := List.mem_iff_getElem?.mp h
  rw [joinU, List.getElem?_zipWith_eq_some] at hi
  obtain ⟨x, y, h1, h2, h3⟩ := hi
  exact ⟨x, y, List.mem_of_getElem? h1, List.mem_of_getElem? h2, h3.symm⟩
theorem joinU_len {e : Nat} {a b : List (List Un)} (h : a.length = b.length) : (joinU e a b).length = a.length := by rw [joinU, List.length_zipWith]; omega
theorem joinU_memL {e : Nat} {u : Un} : ∀ {a b : List (List Un)}, a.length = b.length → u ∈ a.flatten → u ∈ (joinU e a b).flatten
  | [], [], _, h => by simp at h
  | x :: a, y :: b, h, hu => by
    rw [joinU, List.zipWith_cons_cons, List.flatten_cons]
    rw [List.flatten_cons] at hu
    rcases List.mem_append.mp hu with hu | hu
    · exact List.mem_append_left _ (List.mem_append_left _ hu)
    · exact List.mem_append_right _ (joinU_memL (by simpa using h) hu)
theorem joinU_memR {e : Nat} {u : Un} : ∀ {a b : List (List Un)}, a.length = b.length → u ∈ b.flatten → shUn e u ∈ (joinU e a b).flatten
  | [], [], _, h => by simp at h
  | x :: a, y :: b, h, hu => by
    rw [joinU, List.zipWith_cons_cons, List.flatten_cons]
    rw [List.flatten_cons] at hu
    rcases List.mem_append.mp hu with hu | hu
    · exact List.mem_append_left _ (List.mem_append_right _ (List.mem_map.mpr ⟨u, hu, rfl⟩))
    · exact List.mem_append_right _ (joinU_memR (by simpa using h) hu)
def endU (uss : List (List Un)) : Nat := maxN (uss.flatten.map fun u => u.time + u.span)
theorem endU_ge {uss : List (List Un)} {us : List Un} (h : us ∈ uss) : ∀ u ∈ us, u.time + u.span ≤ endU uss := fun u hu => maxN_ge (List.mem_map.mpr ⟨u, List.mem_flatten.mpr ⟨us, h, hu⟩, rfl⟩)
theorem endU_join {a b : List (List Un)} (h : a.length = b.length) : endU (joinU (endU a) a b) = endU a + endU b := by
  refine Nat.le_antisymm ?_ ?_
  · have : ∀ n ∈ (joinU (endU a) a b).flatten.map (fun u => u.time + u.span) ++ [0], n ≤ endU a + endU b := fun n hn => by
      rcases List.mem_append.mp hn with hn | hn
      · obtain ⟨u, hu, rfl⟩ := List.mem_map.mp hn
        obtain ⟨z, hz, huz⟩ := List.mem_flatten.mp hu
        obtain ⟨x, y, hx, hy, rfl⟩ := joinU_mem hz
        rcases List.mem_append.mp huz with hu | hu
        · have := endU_ge hx u hu
          omega
        · obtain ⟨v, hv, rfl⟩ := List.mem_map.mp hu
          have := endU_ge hy v hv
          show v.time + endU a + v.span ≤ _
          omega
      · rw [List.mem_singleton.mp hn]
        exact Nat.zero_le _
    exact this _ (maxN_mem _)
  · by_cases c : endU b = 0
    · rw [c, Nat.add_zero]
      have hm : endU a ∈ a.flatten.map (fun u => u.time + u.span) ++ [0] := maxN_mem _
      rcases List.mem_append.mp hm with hm | hm
      · obtain ⟨u, hu, e⟩ := List.mem_map.mp hm
        have := maxN_ge (List.mem_map.mpr ⟨u, joinU_memL (e := endU a) h hu, rfl⟩ : u.time + u.span ∈ (joinU (endU a) a b).flatten.map fun u => u.time + u.span)
        show endU a ≤ maxN _
        omega
      · have := List.mem_singleton.mp hm
        omega
    · have hm : endU b ∈ b.flatten.map (fun u => u.time + u.span) ++ [0] := maxN_mem _
      rcases List.mem_append.mp hm with hm | hm
      · obtain ⟨u, hu, e⟩ := List.mem_map.mp hm
        have := maxN_ge (List.mem_map.mpr ⟨shUn (endU a) u, joinU_memR (e := endU a) h hu, rfl⟩ : (shUn (endU a) u).time + (shUn (endU a) u).span ∈ (joinU (endU a) a b).flatten.map fun u => u.time + u.span)
        have e2 : (shUn (endU a) u).time + (shUn (endU a) u).span = u.time + endU a + u.span := rfl
        have e3 : u.time + u.span = endU b := e
        show endU a + endU b ≤ maxN _
        omega
      · exact absurd (List.mem_singleton.mp hm) c
def ussP (p : Pr) : List (List Un) := p.tracks.map fun t => t.units
theorem endP_eq (p : Pr) : endP p = endU (ussP p) := by rw [endP, endU, ussP, List.flatMap_def]
theorem mvsOf_eq (p : Pr) : mvsOf p = (ussP p).map (encU []) := by rw [mvsOf, ussP, List.map_map]; rfl
theorem encU_ends : ∀ {us : List Un} {b : List Int}, (encU b us).map (fun m => m.time + m.span) = us.map fun u => u.time + u.span
  | [], _ => rfl
  | u :: us, b => by
    rw [encU, List.map_cons, List.map_cons, encU_ends]
    rfl
theorem endM_enc (uss : List (List Un)) : endM (uss.map (encU [])) = endU uss := by
  rw [endM, endU]
  congr 1
  induction uss with
  | nil => rfl
  | cons us uss ih => rw [List.map_cons, List.flatten_cons, List.flatten_cons, List.map_append, List.map_append, ih, encU_ends]
theorem ussP_prOf {tk sk : Nat} {tags : List TagT} : ∀ {nk : List (Str × Str)} {uss : List (List Un)}, nk.length = uss.length → ussP (prOf tk sk nk tags uss) = uss
  | [], [], _ => rfl
  | x :: nk, us :: uss, h => by
    have ih := ussP_prOf (tk := tk) (sk := sk) (tags := tags) (nk := nk) (uss := uss) (by simpa using h)
    rw [ussP, prOf] at ih ⊢
    exact congrArg (us :: ·) ih
theorem shF_eq (p : Pr) (s : Int) (t : Option Int) : shF p s t = (ussP p).map (shU s t) := by rw [shF, ussP, List.map_map]; rfl
theorem flat_le {α : Type} {n : Nat} : ∀ {l : List (List α)}, (∀ t ∈ l, t.length ≤ n) → l.flatten.length ≤ n * l.length
  | [], _ => by simp
  | t :: l, h => by
    have h1 := flat_le fun x hx => h x (List.mem_cons_of_mem _ hx)
    have h2 := h t List.mem_cons_self
    rw [List.flatten_cons, List.length_append, List.length_cons, Nat.mul_succ]
    omega
theorem UOk.con : ∀ {us : List Un} {l : Nat}, UOk l us → ∀ u ∈ us, u.content.length ≤ 200 := fun {us l} o u hu => by
  obtain ⟨j, hj⟩ := List.mem_iff_getElem?.mp hu
  exact o.get hj
theorem shp_shs (x : List (List ShT)) : Shp 4 (ShsD x) := .list fun d hd => by
  obtain ⟨r, _, rfl⟩ := List.mem_map.mp hd
  refine .list fun d hd => ?_
  obtain ⟨s, _, rfl⟩ := List.mem_map.mp hd
  exact .tup (shp_cons (.int _ _) (shp_cons (.int _ _) (shp_cons (.ints _ _) shp_nil)))
theorem taken_time {us : List Un} {u : Un} {b : List Int} (h : u ∈ us) : ∃ m ∈ encU b us, m.time = u.time := by
  obtain ⟨j, hj⟩ := List.mem_iff_getElem?.mp h
  exact ⟨_, List.mem_of_getElem? (encU_get us b j u hj), rfl⟩
end
/-! w58 -/
section
variable {P : Program} {w : World} {K : PySem.W.Frag} {mg : Str → Option Value} {base : Heap}
/-! ### the law -/
structure PrU (p : Pr) : Prop where
  pin : PrIn p
  tot : (mvsOf p).flatten.length ≤ 21
  us : ∀ us ∈ ussP p, UOk 0 us ∧ Hd0 us ∧ ∀ u ∈ us, u.time + u.span ≤ 274877906944 + 6000 * 8
  len : (ussP p).length ≤ 3
theorem LwP.u {ds : List Int} {al : Nat} {p : Pr} (h : LwP ds al p) : PrU p := by
  have l := h.len
  have ht : (mvsOf p).flatten.length ≤ 7 * (mvsOf p).length := flat_le fun ms hms => by
    obtain ⟨t, ht, rfl⟩ := List.mem_map.mp hms
    rw [encU_len]
    exact (h.us t ht).1
  have hl : (mvsOf p).length = p.tracks.length := List.length_map ..
  refine ⟨⟨h.ok, by omega, by omega⟩, by omega, fun us hus => ?_, by rw [ussP, List.length_map]; exact l⟩
  obtain ⟨t, ht, rfl⟩ := List.mem_map.mp hus
  exact ⟨(h.ok.tracks t ht).units, (h.ok.tracks t ht).head, (h.us t ht).2⟩
theorem endU_le {uss : List (List Un)} {B : Nat} (h : ∀ us ∈ uss, ∀ u ∈ us, u.time + u.span ≤ B) : endU uss ≤ B := by
  have hm : endU uss ∈ uss.flatten.map (fun u => u.time + u.span) ++ [0] := maxN_mem _
  rcases List.mem_append.mp hm with hm | hm
  · obtain ⟨u, hu, e⟩ := List.mem_map.mp hm
    obtain ⟨us, h1, h2⟩ := List.mem_flatten.mp hu
    have := h us h1 u h2
    omega
  · have := List.mem_singleton.mp hm
    omega
theorem FileAt.mono {G G' : Hp} {v : V} {tk sk : Nat} {nk : List (Str × Str)} {tags : List TagT} {tr : List (List Mv)} (h : FileAt G v tk sk nk tags tr) (s : Same G G') : FileAt G' v tk sk nk tags tr := by
  obtain ⟨F, f, r⟩ := h
  exact ⟨F, f, r.mono s⟩
theorem flatU_len (p : Pr) : (p.tracks.flatMap fun t => t.units).length = (mvsOf p).flatten.length := by
  rw [mvsOf]
  induction p.tracks with
  | nil => rfl
  | cons t ts ih => rw [List.flatMap_cons, List.map_cons, List.flatten_cons, List.length_append, List.length_append, ih, encU_len]
theorem units_le {p : Pr} {n : Nat} (h : (mvsOf p).flatten.length ≤ n) : ∀ t ∈ p.tracks, t.units.length ≤ n := fun t ht => by
  have := len_le_flat (tr := mvsOf p) (ms := encU [] t.units) (List.mem_map.mpr ⟨t, ht, rfl⟩)
  rw [encU_len] at this
  omega
def sp_law (K : PySem.W.Frag) : Sp := fun vs H Q _ => ∃ (G : Hp) (ra : Addr) (ns : List Int), Same G H ∧ vs = [.ref ra] ∧ SqL K H ra (ns.map V.int) ∧ PostT G H Q
theorem sc_law : FnScope n_law p_law (defScope s_law) := ⟨rfl, rfl, rfl, by decide +kernel, rfl, by decide +kernel, by decide +kernel⟩
theorem ok_law (T : Facts K mg) : FnOk P w K mg base CX0 13 (fA K "law") (fD K "law") p_law (sp_law K) := by
  obtain ⟨dw, hdv_write, hdb_write⟩ := T.write_b1
  obtain ⟨dsh, hdv_shown, hdb_shown⟩ := T.shown_b1
  refine T.law.F.ok sc_law (fun vs H Q E h => ?_) (fun cdv A outer s H vs Q E hr h => ?_)
  · obtain ⟨G, ra, ns, _, rfl, _⟩ := h
    rfl
  · obtain ⟨G, ra, ns, sG, rfl, hr0, q⟩ := h
    refine ⟨_, PSs.nox (pss_cons (ps_set (i := 1) sc_law.nd rfl (.inl rfl) (pe_call (ok_lw_draws T) (hr.mono (by decide)) (by rfl) T.lw_draws.g T.lw_draws.kp T.lw_draws.b .nil pass0 (pa_cons (pv 0) pa_nil)))
  (pss_cons (ps_set (i := 2) sc_law.nd rfl (.inl rfl) (pe_call (ok_lw_presentation T) (hr.mono (by decide)) (by rfl) T.lw_presentation.g T.lw_presentation.kp T.lw_presentation.b .nil pass0 (pa_cons (pv 1) (pa_cons pe_int (pa_cons pe_int pa_nil)))))
  (pss_cons (ps_set (i := 3) sc_law.nd rfl (.inl rfl) (pe_call (ok_lw_presentation T) (hr.mono (by decide)) (by rfl) T.lw_presentation.g T.lw_presentation.kp T.lw_presentation.b .nil pass0 (pa_cons (pv 1) (pa_cons pe_int (pa_cons pe_int pa_nil)))))
  (pss_cons (ps_set (i := 3) sc_law.nd rfl (.inl rfl) (pe_tup (pa_cons (pe_ix ix_tup (pv 3) pe_int (fun _ _ => rfl)) (pa_cons pe_int (pa_cons (pe_ix ix_tup (pv 3) pe_int (fun _ _ => rfl)) (pa_cons (pe_ix ix_tup (pv 3) pe_int (fun _ _ => rfl)) pa_nil))))))
  (pss_cons (ps_set (i := 4) sc_law.nd rfl (.inl rfl) (pe_call (ok_join T) (hr.mono (by decide)) (by rfl) T.join.g T.join.kp T.join.b .nil pass0 (pa_cons (pe_call (ok_write T) (hr.mono (by decide)) (by rfl) T.write.g T.write.kp hdb_write hdv_write pass0 (pa_cons (pv 2) (pa_cons pe_int pa_nil))) (pa_cons (pe_call (ok_write T) (hr.mono (by decide)) (by rfl) T.write.g T.write.kp hdb_write hdv_write pass0 (pa_cons (pv 3) (pa_cons pe_int pa_nil))) (pa_cons (pe_call (ok_lw_at T) (hr.mono (by decide)) (by rfl) T.lw_at.g T.lw_at.kp T.lw_at.b .nil pass0 (pa_cons (pv 1) (pa_cons pe_int (pa_cons pe_int pa_nil)))) (pa_cons pe_int pa_nil))))))
  (pss_cons (ps_set (i := 5) sc_law.nd rfl (.inl rfl) (pe_call (ok_read T) (hr.mono (by decide)) (by rfl) T.read.g T.read.kp T.read.b .nil pass0 (pa_cons (pv 4) pa_nil)))
  (pss_cons (ps_set (i := 6) sc_law.nd rfl (.inl rfl) (pe_call (ok_end_of T) (hr.mono (by decide)) (by rfl) T.end_of.g T.end_of.kp T.end_of.b .nil pass0 (pa_cons (pv 2) pa_nil)))
  (pss_cons (ps_if (pt_cmpR op_ne (pe_call (ok_end_of T) (hr.mono (by decide)) (by rfl) T.end_of.g T.end_of.kp T.end_of.b .nil pass0 (pa_cons (pv 5) pa_nil)) (pe_op op_add (pv 6) (pe_call (ok_end_of T) (hr.mono (by decide)) (by rfl) T.end_of.g T.end_of.kp T.end_of.b .nil pass0 (pa_cons (pv 3) pa_nil))) (nomark _))
    (pss_one (ps_ret pe_bl))
    pss_nil)
  (pss_cons (ps_if (PW.pt (pw_or (pt_cmpR (op_neD hr.units) (pe_call (ok_shown T) (hr.mono (by decide)) (by rfl) T.shown.g T.shown.kp T.shown.b .nil pass0 (pa_cons (pv 5) (pa_cons (pe_ix ix_tup (pv 2) pe_int (fun _ _ => rfl)) (pa_cons (pv 6) pa_nil)))) (pe_call (ok_shown T) (hr.mono (by decide)) (by rfl) T.shown.g T.shown.kp T.shown.b .nil pass0 (pa_cons (pv 2) (pa_cons (pe_ix ix_tup (pv 2) pe_int (fun _ _ => rfl)) (pa_cons (pv 6) pa_nil)))) (nomark _)) (pw_or1 (pt_cmpR (op_neD hr.units) (pe_call (ok_shown T) (hr.mono (by decide)) (by rfl) T.shown.g T.shown.kp hdb_shown hdv_shown pass0 (pa_cons (pv 5) (pa_cons (pv 6) pa_nil))) (pe_call (ok_shown T) (hr.mono (by decide)) (by rfl) T.shown.g T.shown.kp hdb_shown hdv_shown pass0 (pa_cons (pv 3) (pa_cons pe_int pa_nil))) (nomark _)))))
    (pss_one (ps_ret pe_bl))
    pss_nil)
  (pss_cons (ps_set (i := 7) sc_law.nd rfl (.inl rfl) (pe_call (ok_lw_at T) (hr.mono (by decide)) (by rfl) T.lw_at.g T.lw_at.kp T.lw_at.b .nil pass0 (pa_cons (pv 1) (pa_cons pe_int (pa_cons pe_int pa_nil)))))
  (pss_cons (ps_if (pt_cmpR op_gt (pe_ix ix_tup (pv 2) pe_int (fun _ _ => rfl)) (pv 6) (nomark _))
    (pss_one (ps_ret (pe_cmpR (op_eqD hr.units) (pe_call (ok_whole_show T) (hr.mono (by decide)) (by rfl) T.whole_show.g T.whole_show.kp T.whole_show.b .nil pass0 (pa_cons (pv 5) pa_nil)) (pe_call (ok_shown T) (hr.mono (by decide)) (by rfl) T.shown.g T.shown.kp hdb_shown hdv_shown pass0 (pa_cons (pv 3) (pa_cons (pe_op op_sub (pe_ix ix_tup (pv 2) pe_int (fun _ _ => rfl)) (pv 6)) pa_nil))) (nomark _))))
    pss_nil)
  (pss_cons (ps_set (i := 8) sc_law.nd rfl (.inl rfl) (pe_call (ok_read T) (hr.mono (by decide)) (by rfl) T.read.g T.read.kp T.read.b .nil pass0 (pa_cons (pe_call (ok_cut T) (hr.mono (by decide)) (by rfl) T.cut.g T.cut.kp T.cut.b .nil pass0 (pa_cons (pv 4) (pa_cons (pv 6) (pa_cons (pe_op op_add (pv 6) (pv 7)) (pa_cons (pe_call (ok_lw_at T) (hr.mono (by decide)) (by rfl) T.lw_at.g T.lw_at.kp T.lw_at.b .nil pass0 (pa_cons (pv 1) (pa_cons pe_int (pa_cons pe_int pa_nil)))) (pa_cons pe_int pa_nil)))))) pa_nil)))
  (pss_one (ps_ret (pe_cmpR (op_eqD hr.units) (pe_call (ok_whole_show T) (hr.mono (by decide)) (by rfl) T.whole_show.g T.whole_show.kp T.whole_show.b .nil pass0 (pa_cons (pv 8) pa_nil)) (pe_call (ok_shown T) (hr.mono (by decide)) (by rfl) T.shown.g T.shown.kp T.shown.b .nil pass0 (pa_cons (pv 3) (pa_cons pe_int (pa_cons (pv 7) pa_nil)))) (nomark _)))))))))))))))), ?_⟩
    have A : Adv0 G H G H := .refl sG
    walk_at "sp"
    refine ⟨G, ra, ns, sG, rfl, hr0, fun v1 G1 H1 B1 ⟨ds, rds, hds⟩ => ?_⟩
    have A1 := A.call B1
    walk_at "sp"
    refine ⟨G1, v1, ds, 30, 8, A1.gh, rfl, rds, hds, by decide, by decide, fun v2 G2 H2 B2 ⟨p1, rp1, lw1⟩ => ?_⟩
    have A2 := A1.call B2
    walk_at "sp"
    refine ⟨G2, v1, ds, 400, 8, A2.gh, rfl, rds.mono B2.gg, hds, by decide, by decide, fun v3 G3 H3 B3 ⟨p2, rp2, lw2⟩ => ?_⟩
    have A3 := A2.call B3
    obtain ⟨a3, t3, g3, rfl, ha3, ht3, hg3⟩ := rp2.pr
    obtain ⟨a2, t2, g2, rfl, ha2, ht2, hg2⟩ := (rp1.mono B3.gg).pr
    walk_at "sp"
    refine ⟨line_le (by simp), S_newF A3 fun p4 G4 H4 A4 g34 hp4 _ => ?_⟩
    -- the two presentations
    have rq1 : Rp G4 (.ref a2) (PrD p1) := rp1.mono (B3.gg.trans g34)
    have rq2 : Rp G4 (.ref p4) (PrD ⟨p2.ticks, 0, p2.tracks, p2.tags⟩) := .tup hp4 (.cons (.int _) (.cons (.int _) (.cons (ht3.mono g34) (.cons (hg3.mono g34) .nil))))
    have u1 := lw1.u
    have u2 : PrU ⟨p2.ticks, 0, p2.tracks, p2.tags⟩ := by
      have u := lw2.u
      have o := u.pin.ok
      exact ⟨⟨⟨o.ticks, by show 0 < _; omega, o.len, o.tracks, o.tagsL, o.tags, o.sort⟩, u.pin.l4, u.pin.tot⟩, u.tot, u.us, u.len⟩
    have etk : p2.ticks = p1.ticks := by rw [lw1.ticks, lw2.ticks]
    have enk : nkP (⟨p2.ticks, 0, p2.tracks, p2.tags⟩ : Pr) = nkP p1 := by
      rw [lw1.nk, ← lw2.nk]
      rfl
    have etg1 := lw1.tagsL
    have etg2 : (⟨p2.ticks, 0, p2.tracks, p2.tags⟩ : Pr).tags.length ≤ 5 := lw2.tagsL
    have rds4 := rds.mono (B2.gg.trans (B3.gg.trans g34))
    have hsk2 : (⟨p2.ticks, 0, p2.tracks, p2.tags⟩ : Pr).skip = 0 := rfl
    have htk2 : (⟨p2.ticks, 0, p2.tracks, p2.tags⟩ : Pr).ticks = p1.ticks := etk
    generalize (⟨p2.ticks, 0, p2.tracks, p2.tags⟩ : Pr) = q2 at rq2 u2 enk etg2 hsk2 htk2
    have lu : (ussP p1).length = (ussP q2).length := by
      have := congrArg List.length enk
      rw [nkP, nkP, List.length_map, List.length_map] at this
      rw [ussP, ussP, List.length_map, List.length_map, this]
    have lnk : (nkP p1).length = (ussP p1).length := by rw [nkP, ussP, List.length_map, List.length_map]
    have hB1 : endU (ussP p1) ≤ 274877906944 + 6000 * 8 := endU_le fun us h => (u1.us us h).2.2
    have hB2 : endU (ussP q2) ≤ 274877906944 + 6000 * 8 := endU_le fun us h => (u2.us us h).2.2
    have hen1 : endM (mvsOf p1) = endU (ussP p1) := by rw [mvsOf_eq, endM_enc]
    have tot1 := u1.tot
    have tot2 := u2.tot
    have hx1 : ∀ x ∈ ussP p1, ∀ u ∈ x, u.time + u.span ≤ endU (ussP p1) := fun x h => endU_ge h
    have hJ : joinM (endM (mvsOf p1)) (mvsOf p1) (mvsOf q2) = (joinU (endU (ussP p1)) (ussP p1) (ussP q2)).map (encU []) := by
      rw [hen1, mvsOf_eq, mvsOf_eq, joinU_enc fun y hy => (u2.us y hy).2.1]
    have hju : ∀ z ∈ joinU (endU (ussP p1)) (ussP p1) (ussP q2), UOk 0 z ∧ Hd0 z ∧ ∀ u ∈ z, u.content.length ≤ 200 := fun z hz => by
      obtain ⟨x, y, hx, hy, rfl⟩ := joinU_mem hz
      obtain ⟨ox, dx, _⟩ := u1.us x hx
      obtain ⟨oy, dy, by_⟩ := u2.us y hy
      have o2 := UOk.shift (e := endU (ussP p1)) oy fun u hu => by have := by_ u hu; omega
      rw [Nat.zero_add] at o2
      refine ⟨UOk.app o2 ox (Nat.zero_le _) (hx1 x hx), fun u hu => ?_, fun u hu => ?_⟩
      · cases x with
        | nil => exact hd0_map (f := shUn _) (fun _ => rfl) dy u hu
        | cons v x => exact dx u hu
      · rcases List.mem_append.mp hu with hu | hu
        · exact ox.con u hu
        · obtain ⟨v, hv, rfl⟩ := List.mem_map.mp hu
          exact oy.con v hv
    have lj : (joinU (endU (ussP p1)) (ussP p1) (ussP q2)).length = (ussP p1).length := joinU_len lu
    have hE : endU (joinU (endU (ussP p1)) (ussP p1) (ussP q2)) = endU (ussP p1) + endU (ussP q2) := endU_join lu
    generalize hJU : joinU (endU (ussP p1)) (ussP p1) (ussP q2) = ju at hJ hju lj hE
    walk_at "sp"
    refine ⟨G4, .ref a2, p1, 1, 100, A4.gh, rfl, rq1, u1.pin, by decide, by decide, fun f1 G5 H5 B5 hf1 => ?_⟩
    have A5 := A4.call B5
    walk_at "sp"
    refine ⟨G5, .ref p4, q2, 2, 100, A5.gh, rfl, rq2.mono B5.gg, u2.pin, by decide, by decide, fun f2 G6 H6 B6 hf2 => ?_⟩
    have A6 := A5.call B6
    walk_at "sp"
    refine ⟨G6, v1, ds, 0, 9, A6.gh, rfl, rds4.mono (B5.gg.trans B6.gg), by decide, fun c hc => ?_⟩
    rw [htk2, hsk2, enk] at hf2
    walk_at "sp"
    refine ⟨G6, f1, f2, p1.ticks, p1.skip, 3, c, nkP p1, p1.tags, q2.tags, mvsOf p1, mvsOf q2, A6.gh, rfl, hf1.mono B6.gg, hf2, by decide, by omega, by omega, by omega, fun y hy m hm => ?_, fun f3 G7 H7 B7 hf3 => ?_⟩
    · have h1 := end_le hy hm
      rw [mvsOf_eq, endM_enc] at h1
      rw [hen1]
      omega
    have A7 := A6.call B7
    have jt := joinM_tot (e := endM (mvsOf p1)) (a := mvsOf p1) (b := mvsOf q2)
    rw [hJ] at hf3 jt
    have hf4 := hf3
    obtain ⟨F, ff, hF⟩ := hf3
    refine S_name ?_
    refine S_st (σ' := [some (.ref ra), some v1, some (.ref a2), some (.ref p4), some f3, none, none, none, none]) rfl ?_
    walk_at "sp"
    refine ⟨F, ju, G7, f3, p1.ticks, p1.skip, nkP p1, joinT p1.tags q2.tags, A7.gh, rfl, hF, ff, fun us h u hu => (hju us h).2.2 u hu, fun v8 G8 H8 B8 rv8 => ?_⟩
    have A8 := A7.call B8
    have hup : ussP (prOf p1.ticks p1.skip (nkP p1) (joinT p1.tags q2.tags) ju) = ju := ussP_prOf (by omega)
    have hsp : (prOf p1.ticks p1.skip (nkP p1) (joinT p1.tags q2.tags) ju).skip = p1.skip := rfl
    generalize prOf p1.ticks p1.skip (nkP p1) (joinT p1.tags q2.tags) ju = pj at rv8 hup hsp
    have totj : (mvsOf pj).flatten.length ≤ 42 := by rw [mvsOf_eq, hup]; omega
    have lpj : pj.tracks.length ≤ 100 := by
      have := congrArg List.length hup
      rw [ussP, List.length_map] at this
      have := u1.len
      omega
    have lp1 : p1.tracks.length ≤ 100 := by have := u1.pin.l4; omega
    have lq2 : q2.tracks.length ≤ 100 := by have := u2.pin.l4; omega
    have g48 := B5.gg.trans (B6.gg.trans (B7.gg.trans B8.gg))
    walk_at "sp"
    refine ⟨G8, .ref a2, p1, A8.gh, rfl, rq1.mono g48, by rw [flatU_len]; omega, fun v9 G9 H9 B9 e9 => ?_⟩
    subst e9
    have A9 := A8.call B9
    rw [endP_eq]
    walk_at "sp"
    refine ⟨G9, v8, pj, A9.gh, rfl, rv8.mono B9.gg, by rw [flatU_len]; omega, fun v10 G10 H10 B10 e10 => ?_⟩
    subst e10
    have A10 := A9.call B10
    rw [endP_eq, hup, hE]
    walk_at "sp"
    refine ⟨G10, .ref p4, q2, A10.gh, rfl, rq2.mono (g48.trans (B9.gg.trans B10.gg)), by rw [flatU_len]; omega, fun v11 G11 H11 B11 e11 => ?_⟩
    subst e11
    have A11 := A10.call B11
    rw [endP_eq]
    have g4b := g48.trans (B9.gg.trans (B10.gg.trans B11.gg))
    have rj := rv8.mono (B9.gg.trans (B10.gg.trans B11.gg))
    have ha2' := g4b _ _ (g34 _ _ ha2)
    clear ha2
    generalize hE1 : endU (ussP p1) = E1 at *
    generalize hE2 : endU (ussP q2) = E2 at *
    have x1 : ∀ z ∈ ussP p1, ∀ u ∈ z, u.time + u.span ≤ E1 := hx1
    have e1 : shF pj (p1.skip : Int) (some (E1 : Int)) = shF p1 (p1.skip : Int) (some (E1 : Int)) := by
      rw [shF_eq, shF_eq, hup, ← hJU]
      exact joinU_mapL lu fun x hx y hy => sh_one (x1 x hx)
    have e2 : shF pj (E1 : Int) none = shF q2 0 none := by
      rw [shF_eq, shF_eq, hup, ← hJU]
      refine joinU_mapR lu fun x hx y hy _ => ?_
      rw [sh_two (x1 x hx) (Int.le_refl _), Int.sub_self]
    walk_at "sp"
    refine ⟨G11, v8, pj, p1.skip, some (E1 : Int), A11.gh, rfl, rj, lpj, fun t ht => by have := units_le totj t ht; omega, fun v12 G12 H12 B12 r12 => ?_⟩
    have A12 := A11.call B12
    have ha12 := B12.gg _ _ ha2'
    walk_at "sp"
    refine ⟨G12, .ref a2, p1, p1.skip, some (E1 : Int), A12.gh, rfl, rq1.mono (g4b.trans B12.gg), lp1, fun t ht => by have := units_le tot1 t ht; omega, fun v13 G13 H13 B13 r13 => ?_⟩
    have A13 := A12.call B13
    refine ⟨_, _, (r12.mono B13.gg).dp A13.gh, r13.dp A13.gh, (shp_shs _).shaped (by decide), (shp_shs _).shaped (by decide), ?_⟩
    rw [e1, (shp_shs _).eqv]
    walk_at "sp"
    have g11d := B12.gg.trans B13.gg
    refine ⟨G13, v8, pj, E1, none, A13.gh, rfl, rj.mono g11d, lpj, fun t ht => by have := units_le totj t ht; omega, fun v14 G14 H14 B14 r14 => ?_⟩
    have A14 := A13.call B14
    walk_at "sp"
    refine ⟨G14, .ref p4, q2, 0, none, A14.gh, rfl, rq2.mono (g4b.trans (g11d.trans B14.gg)), lq2, fun t ht => by have := units_le tot2 t ht; omega, fun v15 G15 H15 B15 r15 => ?_⟩
    have A15 := A14.call B15
    refine ⟨_, _, (r14.mono B15.gg).dp A15.gh, r15.dp A15.gh, (shp_shs _).shaped (by decide), (shp_shs _).shaped (by decide), ?_⟩
    rw [e2, (shp_shs _).eqv]
    have g11f := g11d.trans (B14.gg.trans B15.gg)
    walk_at "sp"
    refine ⟨G15, v1, ds, 1, 65536, A15.gh, rfl, rds4.mono (g4b.trans g11f), by decide, fun stop hstop => ?_⟩
    have ha15 := g11f _ _ ha2'
    refine S_name ?_
    refine S_st (σ' := [some (.ref ra), some v1, some (.ref a2), some (.ref p4), some f3, some v8, some (.int E1), some (.int stop), none]) rfl ?_
    by_cases cg : E1 < p1.skip
    · have e3 : shF pj (pj.skip : Int) none = shF q2 ((p1.skip : Int) - E1) none := by
        rw [shF_eq, shF_eq, hup, ← hJU, hsp]
        exact joinU_mapR lu fun x hx y hy _ => sh_two (x1 x hx) (by omega)
      walk_at "sp"
      refine ⟨G15, v8, pj, A15.gh, rfl, rj.mono g11f, lpj, fun t ht => by have := units_le totj t ht; omega, fun v16 G16 H16 B16 r16 => ?_⟩
      have A16 := A15.call B16
      have ha16 := B16.gg _ _ ha15
      walk_at "sp"
      refine ⟨G16, .ref p4, q2, (p1.skip : Int) - E1, none, A16.gh, rfl, rq2.mono (g4b.trans (g11f.trans B16.gg)), lq2, fun t ht => by have := units_le tot2 t ht; omega, fun v17 G17 H17 B17 r17 => ?_⟩
      have A17 := A16.call B17
      refine ⟨_, _, (r16.mono B17.gg).dp A17.gh, r17.dp A17.gh, (shp_shs _).shaped (by decide), (shp_shs _).shaped (by decide), ?_⟩
      rw [e3, (shp_shs _).eqv]
      exact q _ _ _ A17 rfl
    · walk_at "sp"
      refine ⟨G15, v1, ds, 2, 5, A15.gh, rfl, rds4.mono (g4b.trans g11f), by decide, fun c2 hc2 => ?_⟩
      walk_at "sp"
      refine ⟨G15, f3, E1, E1 + stop, p1.ticks, p1.skip, 4, c2, nkP p1, joinT p1.tags q2.tags, ju.map (encU []), A15.gh, by rw [Int.natCast_add]; rfl, hf4.mono ((B8.gg.trans (B9.gg.trans (B10.gg.trans B11.gg))).trans g11f), by omega, by omega, by omega, by decide, by omega, fun v16 G16 H16 B16 ⟨b, hb, hbt, hf5⟩ => ?_⟩
      have A16 := A15.call B16
      rw [cutU_enc fun us h => ⟨(hju us h).1, (hju us h).2.1⟩] at hf5
      obtain ⟨F2, f2, hF2⟩ := hf5
      walk_at "sp"
      refine ⟨F2, ju.map (cutU (E1 : Int) ((E1 + stop : Nat) : Int) b), G16, v16, p1.ticks, E1 - b, nkP p1, joinT p1.tags q2.tags, A16.gh, rfl, hF2, f2, fun us h u hu => ?_, fun v17 G17 H17 B17 r17 => ?_⟩
      · obtain ⟨z, hz, rfl⟩ := List.mem_map.mp h
        obtain ⟨v, hv, rfl⟩ := List.mem_map.mp hu
        exact (hju z hz).2.2 v (List.mem_of_mem_drop (List.mem_filter.mp hv).1)
      have A17 := A16.call B17
      have hum : ussP (prOf p1.ticks (E1 - b) (nkP p1) (joinT p1.tags q2.tags) (ju.map (cutU (E1 : Int) ((E1 + stop : Nat) : Int) b))) = ju.map (cutU (E1 : Int) ((E1 + stop : Nat) : Int) b) := ussP_prOf (by rw [List.length_map]; omega)
      have hsm : (prOf p1.ticks (E1 - b) (nkP p1) (joinT p1.tags q2.tags) (ju.map (cutU (E1 : Int) ((E1 + stop : Nat) : Int) b))).skip = E1 - b := rfl
      generalize prOf p1.ticks (E1 - b) (nkP p1) (joinT p1.tags q2.tags) (ju.map (cutU (E1 : Int) ((E1 + stop : Nat) : Int) b)) = pm at r17 hum hsm
      have totm : (mvsOf pm).flatten.length ≤ 42 := by
        rw [mvsOf_eq, hum, ← cutU_enc fun us h => ⟨(hju us h).1, (hju us h).2.1⟩]
        have := cutM_tot (s := (E1 : Int)) (t := ((E1 + stop : Nat) : Int)) (b := b) (ju.map (encU []))
        rw [mvsOf_eq, hup] at totj
        omega
      have lpm : pm.tracks.length ≤ 100 := by
        have := congrArg List.length hum
        rw [ussP, List.length_map, List.length_map] at this
        have := u1.len
        omega
      have e4 : shF pm (pm.skip : Int) none = shF q2 0 (some (stop : Int)) := by
        rw [shF_eq, shF_eq, hum, List.map_map, hsm, ← hJU]
        refine joinU_mapR lu fun x hx y hy hm => sh_cut (x1 x hx) (u2.us y hy).1 hb fun u hu => ?_
        rw [hJU] at hm
        obtain ⟨o1, o2, _⟩ := hju _ hm
        obtain ⟨m, hm2, em⟩ := taken_time (b := []) hu
        rw [← em]
        refine hbt _ (List.mem_map.mpr ⟨_, hm, rfl⟩) m ?_
        rw [takU_enc o1 o2]
        exact hm2
      walk_at "sp"
      refine ⟨G17, v17, pm, A17.gh, rfl, r17, lpm, fun t ht => by have := units_le totm t ht; omega, fun v18 G18 H18 B18 r18 => ?_⟩
      have A18 := A17.call B18
      walk_at "sp"
      refine ⟨G18, .ref p4, q2, 0, some (stop : Int), A18.gh, rfl, rq2.mono (g4b.trans (g11f.trans (B16.gg.trans (B17.gg.trans B18.gg)))), lq2, fun t ht => by have := units_le tot2 t ht; omega, fun v19 G19 H19 B19 r19 => ?_⟩
      have A19 := A18.call B19
      refine ⟨_, _, (r18.mono B19.gg).dp A19.gh, r19.dp A19.gh, (shp_shs _).shaped (by decide), (shp_shs _).shaped (by decide), ?_⟩
      rw [e4, (shp_shs _).eqv]
      exact q _ _ _ A19 rfl
end
end Sp
namespace Sp
open PySem PySem.Spec PyProof.Rows L2
theorem law_called : PySem.W.WalkO qv loose (PySem.W.XL qv []) hookS.says R.toRowW (HandSHeadRun.topDef P0 174) [] fun f vs => PySem.call f vs := by
  refine L2.walk_ofE (l := PySem.Challenge.rw_spoolbox_k42_whole_cut_out_of_a_join) (n := 63) (k := 13) (x := "_law_script") (CX := L2.CX0) rfl (by decide) (by kernel_rfl) ⟨rfl, by decide, by decide⟩ ?F (fun _ _ _ _ z => z)
  intro w mg f h Y G hmg0
  obtain ⟨K, KX, c⟩ := Y
  have c1 : He.SaysD fa fn K := congrArg Prod.fst c
  have c2 : He.tupB K "MOST" mostV = true := congrArg Prod.snd c
  have T : Facts K mg := facts_of KX G c1 c2
  have hmg : mg ("law" : PySem.Str) = some (.ref f) := by
    have e : (HandSHeadRun.topDef P0 174).name = ("law" : PySem.Str) := by kernel_rfl
    rw [← e]
    exact hmg0
  have e2 := hmg.symm.trans T.law.g
  have e3 : f = fA K "law" := by injection (Option.some.inj e2)
  subst e3
  have b := FunD.bindsA (ps := ["_law_script"]) T.law.F fun _ _ _ _ _ _ us hl => match us, hl with | [_], _ => rfl
  exact ⟨K, fD K "law", sp_law K, KX, fun s u => b s [u] rfl, fun H a ns _ _ hS => ⟨fun _ => none, a, ns, (fun _ _ z => (nomatch z)), rfl, hS, fun v G1 H1 _ e => e⟩, fun base _ _ => ok_law T⟩
end Sp
theorem PySem.Challenge.cw_spoolbox_k42_whole_cut_out_of_a_join_holds : PySem.Challenge.rw_spoolbox_k42_whole_cut_out_of_a_join.Holds :=
  Sp.holds_of Sp.law_called
