import PyProof.Rows.All
import Wide.All
import OpenK.AllK
import Wide.FinOn
import HandS.Bytes
import HandS.BytesMake
import HandS.ClsMeth
import HandS.Codes
import HandS.Defaults
import HandS.DictComp
import HandS.Evl
import HandS.FStr
import HandS.Flow
import HandS.ForMost
import HandS.Head0
import HandS.Head1
import HandS.Head2
import HandS.HeadEnd
import HandS.HeadHook1
import HandS.HeadHook2
import HandS.HeadHook3
import HandS.IntHex
import HandS.IsInst
import HandS.MakeKw
import HandS.MakeKwOnly
import HandS.More
import HandS.Nested
import HandS.OwnEq
import HandS.ReCall
import HandS.Star
import HandS.Steps
import HandS.StrMore
import HandS.Style
import HandS.Walk
import HandS.Wide
import HandS.WrittenGet
import HandS.Zip
import KE.GoesEnumKw
import KE.KBytesDec
import KE.KBytesFind
import KE.KBytesNew
import KE.KDictZip
import KE.KStateDown
import KE.KStrBytes
import KE.KSuper
import KE.KxField
import KE.KxMul
import PyProof.NeKinds
import PySem.Challenge.RW_tarhouse_k22_whole_data_are_what_was_wri
/-! TaA -/
set_option Elab.async false
set_option linter.all false
set_option maxRecDepth 100000
set_option maxHeartbeats 4000000
/-! the text's statements, the module's texts -/
namespace Tar
open PySem PySem.Spec PyProof.Rows L2
def topS (i : Nat) : Stmt := PySem.Challenge.pw_tarhouse_k22_whole_data_are_what_was_wri.main.body.getD i (.Pass ⟨0, 0, 0, 0⟩)
def kLET : List Nat := [97,98,99,100,101,102,103,104,105,106,107,108,109,110,111,112,113,114,115,116,117,118,119,120,121,122,48,49,50,51,52,53,54,55,56,57,46,95,45,47]
def kLL : List Nat := [46,47,46,47,64,76,111,110,103,76,105,110,107]
def kMAG : List Nat := [117,115,116,97,114]
def kKIN : List Nat := [48,83,53,50,49,75,76]
end Tar

/-! TaW0 -/
set_option Elab.async false
set_option linter.all false
set_option maxRecDepth 100000
set_option maxHeartbeats 0
namespace TarH
open PySem PySem.W PySem.Calls PyProof.Rows
abbrev R : OpenRow := OpenLaw.row PySem.Challenge.rw_tarhouse_k22_whole_data_are_what_was_wri
abbrev qv : Program := view R.prog [106]
def names0 : List PySem.Str := ["_wall", "__name__", "NoBlob", "NoData", "NoName", "NoMode", "NoTime", "NoSize", "NoPieces", "NoOffset", "Torn", "Wrong", "is_integer", "is_within"]
def names1 : List PySem.Str := ["blob", "look_data", "LETTERS", "MOST_NAME", "MOST_SHORT", "MOST_DATA", "MOST_PIECES", "MOST_MODE", "MOST_TIME", "is_name", "is_short", "look_name", "look_stamps", "is_piece"]
def names2 : List PySem.Str := ["are_spans", "are_pieces", "Member", "File", "Sparse", "Directory", "Symlink", "Link", "TITLES", "BLOCK", "LONG_NAME", "MAGIC", "KINDS", "NUMBERS"]
def names3 : List PySem.Str := ["SIZES", "text_field", "octal_field", "sum_of", "checksum_field", "magic_field", "header", "text_of", "number_of", "numbers_of", "kind_of", "name_of", "target_of", "is_name_right"]
def names4 : List PySem.Str := ["wrong_number", "is_kind_right", "is_target_right", "wrong_field", "is_text_of", "LETTERS_OF", "END_SIZE", "padded", "map_block", "stored", "long_part", "target_text", "bytes_of", "blocks_of"]
def names5 : List PySem.Str := ["written", "wrong", "torn", "whole_numbers", "spans_of", "sparse", "at_header", "look_at", "scan", "complain", "read", "_law_source", "_law_draw", "_law_random_name"]
def names6 : List PySem.Str := ["_law_any_name", "_law_random_numbers", "_law_random_size", "_law_stamps", "_law_random_spans", "_law_random_member", "_law_random_list", "_law_codes", "_law_octal", "_law_head", "_law_filled", "_law_stored", "_law_long", "_law_bytes"]
def names7 : List PySem.Str := ["_law_archive", "_law_random_data"]
def names : List PySem.Str := names0 ++ names1 ++ names2 ++ names3 ++ names4 ++ names5 ++ names6 ++ names7
end TarH

/-! TaW1 -/
set_option Elab.async false
set_option linter.all false
set_option maxRecDepth 100000
set_option maxHeartbeats 0
/-! the head's own Hook: what is looked at -/
namespace TarH
open PySem PySem.Spec PyProof.Rows L2
/-- the objects that an object names; a code object's own parts are left out -/
def refsM (o : Obj) : List Addr := match o.data with
  | .seq its _ => its.toList.flatMap He.refV
  | .dict es _ => es.toList.flatMap fun e => He.refV e.val
  | .func fd => He.refV fd.code ++ (He.refV fd.kwdefaults ++ fd.closure.map (·.2))
  | .cls cd => cd.ns :: cd.mro.flatMap He.refV
  | _ => []
def stepM (g : Addr → Option Obj) (as : List Addr) : List Addr := as.flatMap fun a => match g a with
  | some o => refsM o
  | none => []
/-- the mutable namespace, the statics, what they name, four steps far -/
def asM (g : Addr → Option Obj) : List Addr :=
  let l1 := stepM g [mainGlobals]
  let l2 := stepM g l1
  let l3 := stepM g l2
  let l4 := stepM g l3
  mainGlobals :: cStatics :: (l1 ++ (l2 ++ (l3 ++ l4)))
end TarH

/-! TaW2 -/
set_option Elab.async false
set_option linter.all false
set_option maxRecDepth 100000
set_option maxHeartbeats 4000000
/-! the head's own facts -/
namespace TarH
open PySem PySem.Spec PyProof.Rows L2 He Tar
/-! ### tuples and dicts at addresses -/
def tupA (K : PySem.W.Frag) (a : Addr) (vs : List V) : Bool := match K.lookup a with
  | some ⟨.type c, _, .seq its _, _⟩ => decide (c = "tuple") && (decide (its.size ≤ sizeLine) && relAll vs its.toList)
  | _ => false
theorem tupA_ok {K : PySem.W.Frag} {a : Addr} {vs : List V} (h : tupA K a vs = true) (H : Hp) : SqT K H a vs := by
  unfold tupA at h
  cases q : K.lookup a with
  | none => rw [q] at h; cases h
  | some o =>
    obtain ⟨oc, od, dt, osl⟩ := o
    rw [q] at h
    cases oc with
    | type c =>
      cases dt with
      | seq its n =>
        obtain ⟨h1, h2⟩ := ba (show (decide (c = "tuple") && (decide (its.size ≤ sizeLine) && relAll vs its.toList)) = true from h)
        obtain ⟨h3, h4⟩ := ba h2
        exact .inr ⟨_, its, n, q, congrArg Value.type (of_decide_eq_true h1), rfl, of_decide_eq_true h3, relAll_ok h4⟩
      | _ => cases h
    | _ => cases dt <;> cases h
def itemAt (K : PySem.W.Frag) (a : Addr) (i : Nat) : Addr := match K.lookup a with
  | some ⟨_, _, .seq its _, _⟩ => (match its.toList[i]? with
    | some (.ref b) => b
    | _ => 0)
  | _ => 0
def valAt (K : PySem.W.Frag) (a : Addr) (x : Str) : Addr := match PySem.W.nsIn K a x with
  | some (some (.ref b)) => b
  | _ => 0
/-- NUMBERS -/
def numB (K : PySem.W.Frag) (a : Addr) : Bool :=
  tupA K a [.ref (itemAt K a 0), .ref (itemAt K a 1), .ref (itemAt K a 2), .ref (itemAt K a 3), .ref (itemAt K a 4)] && (tupA K (itemAt K a 0) [.str "mode", .int 100, .int 8] && (tupA K (itemAt K a 1) [.str "owner", .int 108, .int 8] &&
    (tupA K (itemAt K a 2) [.str "group", .int 116, .int 8] && (tupA K (itemAt K a 3) [.str "size", .int 124, .int 12] && tupA K (itemAt K a 4) [.str "time", .int 136, .int 12]))))
/-! ### dicts with text keys -/
theorem keyOf_str {e : DictEntry} {k : Str} {h : Int} (q : keyOf e = some (k, h)) : ∃ t, e.key = .str k t := by
  unfold keyOf at q
  split at q
  · rename_i x t e1
    cases q
    exact ⟨t, e1⟩
  · cases q
theorem keys_not {P : Params} : ∀ {l : List DictEntry} {ks : List Str} {x : Str}, l.map keyOf = keysIn P ks → x ∉ ks → l.find? (fun e => e.key.isStr x) = none ∧ l.any (fun e => e.refKey) = false
  | [], _, _, _, _ => ⟨rfl, rfl⟩
  | e :: r, [], _, h, _ => by cases h
  | e :: r, k :: ks, x, h, hx => by
    have h1 : keyOf e :: r.map keyOf = some (k, PyData.keyHash P k) :: keysIn P ks := h
    injection h1 with h2 h3
    obtain ⟨t, ht⟩ := keyOf_str h2
    obtain ⟨i1, i2⟩ := keys_not h3 (fun q => hx (List.mem_cons_of_mem _ q))
    have hne : x ≠ k := fun q => hx (by rw [q]; exact List.mem_cons_self ..)
    have e1 : e.key.isStr x = false := by
      rw [ht]
      show (k == x) = false
      rw [beq_eq_false_iff_ne]
      exact fun q => hne q.symm
    have e2 : e.refKey = false := by
      unfold DictEntry.refKey
      rw [ht]
    rw [List.find?_cons, e1, List.any_cons, e2]
    exact ⟨i1, i2⟩
theorem dicW_not {K : PySem.W.Frag} {w : World} {a : Addr} {ks : List Str} {x : Str} (h : dicW K a = some (keysIn w.params ks)) (hx : x ∉ ks) : PySem.W.nsIn K a x = some none := by
  unfold dicW at h
  unfold PySem.W.nsIn
  cases q : K.lookup a with
  | none => rw [q] at h; cases h
  | some o =>
    obtain ⟨oc, od, dt, osl⟩ := o
    rw [q] at h
    cases oc with
    | type c =>
      cases od with
      | none =>
        cases dt with
        | dict es n =>
          have h1 : (match decide (c = "dict") && (osl.isEmpty && !(a == sysModules)) with
            | true => some (es.toList.map keyOf)
            | false => none) = some (keysIn w.params ks) := h
          cases z : decide (c = "dict") && (osl.isEmpty && !(a == sysModules)) with
          | false => rw [z] at h1; cases h1
          | true =>
            rw [z] at h1
            obtain ⟨g1, g2⟩ := keys_not (Option.some.inj h1) hx
            show (match es.toList.find? (fun e => e.key.isStr x) with
              | some e => some (some e.val)
              | none => if es.toList.any (fun e => e.refKey) then none else some none) = some none
            rw [g1, g2]
            rfl
        | _ => cases h
      | some b => cases dt <;> cases h
    | _ => cases od <;> cases dt <;> cases h
end TarH

/-! TaW3 -/
set_option Elab.async false
set_option linter.all false
set_option maxRecDepth 100000
set_option maxHeartbeats 4000000
/-! the head's Hook -/
namespace TarH
open PySem PySem.Spec PyProof.Rows L2 He Tar
def dD (x : Str) (i : Nat) : DefD := ⟨(x, none), x, x, defArgs (topS i), defBody (topS i), defScope (topS i), [], []⟩
def dM (c m q : Str) (i : Nat) : DefD := ⟨(c, some m), m, q, defArgs (inClass (topS 32) i), defBody (inClass (topS 32) i), defScope (inClass (topS 32) i), [], []⟩
def fn0 : List DefD := [dD "is_integer" 13, dD "is_within" 14, dD "blob" 15, dD "look_data" 16, dD "is_name" 25, dD "is_short" 26]
def fn1 : List DefD := [dD "look_name" 27, dD "look_stamps" 28, dD "is_piece" 29, dD "are_spans" 30, dD "are_pieces" 31, dD "text_field" 46]
def fn2 : List DefD := [dD "octal_field" 47, dD "sum_of" 48, dD "checksum_field" 49, dD "magic_field" 50, ⟨("header", none), "header", "header", defArgs (topS 51), defBody (topS 51), defScope (topS 51), [], [("mode", .int 0), ("size", .int 0), ("time", .int 0), ("target", .str (SX.S []))]⟩, dD "text_of" 52]
def fn3 : List DefD := [dD "number_of" 53, dD "numbers_of" 54, dD "kind_of" 55, dD "name_of" 56, dD "target_of" 57, dD "is_name_right" 58]
def fn4 : List DefD := [dD "wrong_number" 59, dD "is_kind_right" 60, dD "is_target_right" 61, dD "wrong_field" 62, dD "is_text_of" 63, dD "padded" 67]
def fn5 : List DefD := [dD "map_block" 68, dD "stored" 69, dD "long_part" 70, dD "target_text" 71, dD "bytes_of" 72, dD "blocks_of" 73]
def fn6 : List DefD := [dD "written" 74, dD "wrong" 76, dD "torn" 77, dD "whole_numbers" 78, dD "spans_of" 79, ⟨("sparse", none), "sparse", "sparse", defArgs (topS 80), defBody (topS 80), defScope (topS 80), [], []⟩]
def fn7 : List DefD := [dD "at_header" 81, dD "look_at" 82, ⟨("scan", none), "scan", "scan", defArgs (topS 83), defBody (topS 83), defScope (topS 83), [], [("offset", .int 0)]⟩, dD "complain" 84, dD "read" 85, dD "_law_source" 87]
def fn8 : List DefD := [dD "_law_draw" 88, dD "_law_random_name" 89, dD "_law_any_name" 90, dD "_law_random_numbers" 91, dD "_law_random_size" 92, dD "_law_stamps" 93]
def fn9 : List DefD := [dD "_law_random_spans" 94, dD "_law_random_member" 95, dD "_law_random_list" 96, dD "_law_codes" 97, dD "_law_octal" 98, dD "_law_head" 99]
def fn10 : List DefD := [dD "_law_filled" 100, dD "_law_stored" 101, dD "_law_long" 102, dD "_law_bytes" 103, dD "_law_archive" 104, dD "_law_random_data" 105]
def fn11 : List DefD := [dD "law" 106, dM "Member" "__init__" "Member.__init__" 1, dM "Member" "__eq__" "Member.__eq__" 2]
def fn : List DefD := fn0 ++ fn1 ++ fn2 ++ fn3 ++ fn4 ++ fn5 ++ fn6 ++ fn7 ++ fn8 ++ fn9 ++ fn10 ++ fn11
def glo0 : List Str := ["is_integer", "is_within", "blob", "look_data", "is_name", "is_short", "look_name", "look_stamps", "is_piece", "are_spans", "are_pieces", "text_field"]
def glo1 : List Str := ["octal_field", "sum_of", "checksum_field", "magic_field", "header", "text_of", "number_of", "numbers_of", "kind_of", "name_of", "target_of", "is_name_right"]
def glo2 : List Str := ["wrong_number", "is_kind_right", "is_target_right", "wrong_field", "is_text_of", "padded", "map_block", "stored", "long_part", "target_text", "bytes_of", "blocks_of"]
def glo3 : List Str := ["written", "wrong", "torn", "whole_numbers", "spans_of", "sparse", "at_header", "look_at", "scan", "complain", "read", "_law_source"]
def glo4 : List Str := ["_law_draw", "_law_random_name", "_law_any_name", "_law_random_numbers", "_law_random_size", "_law_stamps", "_law_random_spans", "_law_random_member", "_law_random_list", "_law_codes", "_law_octal", "_law_head"]
def glo5 : List Str := ["_law_filled", "_law_stored", "_law_long", "_law_bytes", "_law_archive", "_law_random_data", "law", "Member", "File", "Sparse", "Directory", "Symlink"]
def glo6 : List Str := ["Link", "NUMBERS", "SIZES", "LETTERS_OF"]
def glo : List Str := glo0 ++ glo1 ++ glo2 ++ glo3 ++ glo4 ++ glo5 ++ glo6
def fre0 : List Str := ["isinstance", "int", "bool", "list", "tuple", "bytes", "str", "zip", "range", "super", "all", "len"]
def fre1 : List Str := ["sum", "ord", "min", "max", "abs"]
def fre : List Str := fre0 ++ fre1
def kFile : List Nat := [102, 105, 108, 101]
def kSparse : List Nat := [115, 112, 97, 114, 115, 101]
def kDir : List Nat := [100, 105, 114, 101, 99, 116, 111, 114, 121]
def kSym : List Nat := [115, 121, 109, 108, 105, 110, 107]
def kLink : List Nat := [108, 105, 110, 107]
/-! ### the five classes -/
structure ClD where
  x : Str
  q : Str
  kind : Str
  st : Stmt
  kws : List (Str × V)
def cls5 : List ClD := [⟨"File", "File.__init__", SX.S kFile, inClass (topS 33) 1, [("mode", .int 420), ("time", .int 0)]⟩, ⟨"Sparse", "Sparse.__init__", SX.S kSparse, inClass (topS 34) 1, [("mode", .int 420), ("time", .int 0)]⟩,
  ⟨"Directory", "Directory.__init__", SX.S kDir, inClass (topS 35) 1, [("mode", .int 493), ("time", .int 0)]⟩, ⟨"Symlink", "Symlink.__init__", SX.S kSym, inClass (topS 36) 1, [("mode", .int 511), ("time", .int 0)]⟩, ⟨"Link", "Link.__init__", SX.S kLink, inClass (topS 37) 1, [("mode", .int 420), ("time", .int 0)]⟩]
abbrev ClV : Type := Option (Str × Str × Arguments × FuncBody × Scope × Addr × List Str × Value × Addr)
def iniAt (K : PySem.W.Frag) (x : Str) : Addr := ma K (ga K x) "__init__"
def clW (K : PySem.W.Frag) (x : Str) : ClV := match K.lookup (iniAt K x) with
  | some ⟨_, _, .func fd, _⟩ => some (fd.name, fd.qualname, fd.params, fd.body, fd.scope, fd.globals, fd.closure.map (·.1), fd.defaults, fd.builtins)
  | _ => none
def ClD.val (d : ClD) : ClV := some ("__init__", d.q, defArgs d.st, .stmts (defBody d.st), defScope d.st, mainGlobals, ["__class__"], .none, builtinsNs)
abbrev fileM : Str := R.prog.main.file
/-- what of the code object and the cell -/
def codB (K : PySem.W.Frag) (cd : Value) : Bool := match cd with
  | .ref a => (match K.lookup a with
    | some ⟨_, _, .fields vs, _⟩ => (match (vs[2]? : Option Value) with
      | some (Value.str f _) => decide (fileM = f)
      | _ => false)
    | _ => false)
  | _ => false
def celB (K : PySem.W.Frag) (c C : Addr) : Bool := match K.lookup c with
  | some ⟨_, _, .cell (some (.ref D)), _⟩ => decide (D = C)
  | _ => false
def supB (K : PySem.W.Frag) (d : ClD) : Bool := match K.lookup (iniAt K d.x) with
  | some ⟨_, _, .func fd, _⟩ => PySem.W.codeIn K fd.code d.q && (kwdB K fd.kwdefaults d.kws && (codB K fd.code && (fd.closure.map (·.2)).all fun c => celB K c (ga K d.x)))
  | _ => false
def nats : List Str := ["name", "mode", "time", "key", "data", "size", "pieces", "target"]
def memIni (K : PySem.W.Frag) : Addr := ma K (ga K "Member") "__init__"
def memEq (K : PySem.W.Frag) : Addr := ma K (ga K "Member") "__eq__"
def clB (K : PySem.W.Frag) (d : ClD) : Bool :=
  (Fa.cls d.x).ok K && (conB K d.x "KIND" (.str d.kind) && ((nats.all fun f => (Fa.noat d.x f).ok K) && ((Fa.mkr d.x).ok K && (supB K d && ((PySem.W.clsIn K (ga K d.x)).isSome && (decide (PySem.W.mroIn K (ga K d.x) (.ref (ga K d.x)) = some true) &&
    (eqO (PySem.W.ks_superIn K (ga K d.x) (ga K d.x) "__init__") (some (some (.ref (memIni K)))) && (eqO (PySem.W.findIn K (.ref (ga K d.x)) "__class__") (some (some (.builtin "object.__class__"))) && (decide (PySem.W.mroIn K (ga K d.x) (.type "object") = some true) &&
    (decide (PySem.W.kitOne K (.ref (ga K d.x)) (.ref (ga K "Member")) = some true) && eqO (PySem.W.findIn K (.ref (ga K d.x)) "__eq__") (some (some (.ref (memEq K))))))))))))))
def oneB (K : PySem.W.Frag) : Bool :=
  decide (PySem.W.typeIn K (.ref (memIni K)) = some (.type "function")) && (eqO (PySem.W.nsIn K cStatics "thirdparty.any") (some none) && (PySem.W.fnIn K (memIni K) && (eqO (PySem.W.specialIn K (.builtin "object.__class__") "__get__") (some (some (.builtin "getset_descriptor.__get__"))) &&
    (decide (PySem.W.takesIn K (.builtin "object.__class__") = some true) && PySem.W.isFn K (.ref (memEq K))))))
def conI : List (Str × Int) := [("MOST_NAME", 250), ("MOST_SHORT", 100), ("MOST_DATA", 4096), ("MOST_PIECES", 50), ("MOST_MODE", 4095), ("MOST_TIME", 8589934591), ("BLOCK", 512), ("END_SIZE", 1024)]
def conS : List (Str × Str) := [("LETTERS", SX.S kLET), ("LONG_NAME", SX.S kLL), ("MAGIC", SX.S kMAG), ("KINDS", SX.S kKIN)]
def letK : List (Str × Dv) := [(SX.S kFile, .str (SX.S [48])), (SX.S kSparse, .str (SX.S [83])), (SX.S kDir, .str (SX.S [53])), (SX.S kSym, .str (SX.S [50])), (SX.S kLink, .str (SX.S [49]))]
def sizB (K : PySem.W.Frag) (a : Addr) : Bool :=
  eqO (PySem.W.nsIn K a (SX.S [48])) (some (some (.ref (valAt K a (SX.S [48]))))) && (eqO (PySem.W.nsIn K a (SX.S [83])) (some (some (.ref (valAt K a (SX.S [83]))))) && (eqO (PySem.W.nsIn K a (SX.S [75])) (some (some (.ref (valAt K a (SX.S [75]))))) && (eqO (PySem.W.nsIn K a (SX.S [76])) (some (some (.ref (valAt K a (SX.S [76]))))) &&
    (tupA K (valAt K a (SX.S [48])) [.int 0, .int 4096] && (tupA K (valAt K a (SX.S [83])) [.int 512, .int 4608] && (tupA K (valAt K a (SX.S [75])) [.int 102, .int 251] && tupA K (valAt K a (SX.S [76])) [.int 102, .int 251]))))))
def exB (K : PySem.W.Frag) : Bool :=
  (glo.all fun x => (Fa.glo x).ok K) && ((fre.all fun x => (Fa.free x).ok K) && ((conI.all fun p => (Fa.int p.1 p.2).ok K) && ((conS.all fun p => (Fa.str p.1 p.2).ok K) && ((cls5.all fun d => clB K d) && (oneB K && (numB K (ga K "NUMBERS") && (valsB K (ga K "LETTERS_OF") letK && sizB K (ga K "SIZES"))))))))
abbrev AlM : Type := AlD × (List ClV × (List (Option (List (Option (Str × Int)))) × Bool))
def obsM (K : PySem.W.Frag) : AlM := (obsD [] fn K, (cls5.map fun d => clW K d.x, ([dicW K (ga K "LETTERS_OF"), dicW K (ga K "SIZES")], exB K)))
def kLOk : List Str := [SX.S kFile, SX.S kSparse, SX.S kDir, SX.S kSym, SX.S kLink]
def kSZk : List Str := [SX.S [48], SX.S [83], SX.S [75], SX.S [76]]
def valM (w : World) : AlM := (valD fn, (cls5.map ClD.val, ([some (keysIn w.params kLOk), some (keysIn w.params kSZk)], true)))
def hookM : PySem.W.Hook where
  α := AlM
  obs := fun s => obsM (frG s.heap.get? (asM s.heap.get?))
  val := fun w => valM w
  says := fun w h => ∃ K : PySem.W.Frag, K.In h ∧ obsM K = valM w
  of := fun _ _ e => ⟨_, frG_in, e⟩
  keeps := fun _ _ _ ⟨K, hK, c⟩ k => ⟨K, PySem.W.Frag.In.keeps hK k, c⟩
def obM (s : PySem.W.SharedT) : AlM := obsM (frG (HandSHeadRun.getT s) (asM (HandSHeadRun.getT s)))
theorem obM_eq (s : PySem.W.SharedT) : obM s = hookM.obs s.abs := by
  have e : HandSHeadRun.getT s = s.abs.heap.get? := funext (HandSHeadRun.getT_eq s)
  unfold obM
  rw [e] <;> rfl
end TarH

/-! TaW4 -/
set_option Elab.async false
set_option linter.all false
set_option maxRecDepth 100000
set_option maxHeartbeats 0
/-! the top's run, with the facts -/
namespace TarH
open PySem PySem.W PySem.Calls PyProof.Rows
theorem run_f (w : World) : HandSHeadRun.RunEq R qv hookM obM 30000 names (w.withFollow "special-get-raises" false) := by
  intro os
  kernel_rfl
theorem run_t (w : World) : HandSHeadRun.RunEq R qv hookM obM 30000 names (w.withFollow "special-get-raises" true) := by
  intro os
  kernel_rfl
theorem run (w : World) : HandSHeadRun.RunEq R qv hookM obM 30000 names w := byRow2 "special-get-raises" (P := fun w => HandSHeadRun.RunEq R qv hookM obM 30000 names w) run_f run_t w
end TarH

/-! TaR1 -/
set_option Elab.async false
set_option linter.all false
set_option maxRecDepth 100000
set_option maxHeartbeats 4000000
/-! rules of my own: methods of bytes and texts, bytes(n), sum of bytes, int(t, 8), f"{n:o}", text * int -/
namespace Tar
open PySem PySem.Spec PyProof.Rows L2

/-! ### bytes as a value of a built-in type -/
def tyByt (x : V) (_ : Hp) : Prop := ∃ b, x = .byt b
theorem ty_byt {X : Cx} : TyOk X "bytes" tyByt := by
  intro pins σ H s x v I r ty
  obtain ⟨b, rfl⟩ := ty
  obtain ⟨t, rfl⟩ := r
  exact ⟨PySem.W.typeIs_bytes s b t, fun _ e => nomatch e⟩
def zs (n : Nat) : List UInt8 := List.replicate n 0
section
variable {X : Cx}
/-- b.find(c) -/
def rFind : V → List V → Hp → VK → Prop := fun x xs H Q => ∃ l m : List UInt8, x = .byt l.toArray ∧ xs = [.byt m.toArray] ∧
  Q (.int (PySem.W.KBf.told (PySem.W.KBf.first? (PySem.W.KBw.bInts l.toArray) (PySem.W.KBw.bInts m.toArray)))) H
theorem mt_bfind : MtR X "bytes.find" rFind := by
  intro pins s σ H x xs v us Q I rx rs h
  obtain ⟨l, m, rfl, rfl, q⟩ := h
  obtain ⟨t, rfl⟩ := rx
  obtain ⟨u, rfl, ru⟩ := vals1 rs
  obtain ⟨t2, rfl⟩ := ru
  exact PySem.W.KBf.find_K rfl rfl fun t' k _ _ _ => ⟨.int _, H, I.tok k, ⟨_, rfl⟩, q⟩
/-- t.encode(), t below 128 -/
def rEncode : V → List V → Hp → VK → Prop := fun x xs H Q => ∃ t : List Nat, x = .str (SX.S t) ∧ xs = [] ∧ (∀ c ∈ t, c < 128) ∧ t.length ≤ 16777216 ∧ Q (.byt (t.map Nat.toUInt8).toArray) H
theorem mt_encode : MtR X "str.encode" rEncode := by
  intro pins s σ H x xs v us Q I rx rs h
  obtain ⟨t, rfl, rfl, ha, hz, q⟩ := h
  obtain ⟨tk, rfl⟩ := rx
  cases rs
  refine PySem.W.KSb.encode_K (x := SX.S t) ha (by rw [SX.S_len]; exact hz) fun c t' k e _ _ => ⟨.byt (t.map Nat.toUInt8).toArray, H, I.tok k, ?_, q⟩
  have e2 : c = (t.map Nat.toUInt8).toArray := PySem.W.KBf.arr_inj (e.trans (PySem.W.KSb.enc_ints (x := SX.S t) ha).symm)
  exact ⟨t', by rw [e2]⟩
/-- bytes(n) -/
def rBytN : List V → Hp → VK → Prop := fun xs H Q => ∃ n : Int, xs = [.int n] ∧ 0 ≤ n ∧ n ≤ 16777216 ∧ Q (.byt (zs n.toNat).toArray) H
theorem call_bytes_n : CallR X (.type "bytes") rBytN := by
  intro pins s σ H xs us Q I r h
  obtain ⟨n, rfl, h0, hz, q⟩ := h
  obtain ⟨u, rfl, ru⟩ := vals1 r
  obtain ⟨t, rfl⟩ := ru
  refine PySem.call_bytes_size h0 hz fun t' k => ⟨.byt (zs n.toNat).toArray, H, I.tok k, ?_, q⟩
  exact ⟨t', by simp [zs]⟩
/-- sum(bytes) -/
theorem walks_byt {prog : Program} {w : World} {A : Around} (hh : A.handled = none) (it : Addr) (b : Array UInt8) (t : Tok) :
    Walks prog w A it [it] [it] b.size (fun i v => ∃ c tk, b[i]? = some c ∧ v = .int ((c.toNat : Nat) : Int) tk) (fun i h => PySem.W.KBw.IsBytesIter h it b t i) where
  sub := fun b hb => hb
  frame := fun i h h' st hk => let ⟨o, ho, r⟩ := st; ⟨o, hk it (by simp) o ho, r⟩
  item := fun i s Q E hi st hQ => by
    refine PySem.W.KBw.next_item st (Array.getElem?_eq_getElem hi) fun h' st' sb => ?_
    exact hQ _ h' _ ⟨_, _, Array.getElem?_eq_getElem hi, rfl⟩ st' fun c o hc e => (sb.2 c (fun z => hc (by simp [z]))).trans e
  done := fun s Q E st hQ => by
    refine PySem.W.KBw.next_end hh st (by simp) fun h' eb => ?_
    exact hQ h' s.toks fun c o hc e => eb c o (fun z => hc (by simp [z])) e
  self := fun i s Q E st h => PySem.W.KBw.pyIter_self st h
def sumB (l : List UInt8) : Nat := (l.map UInt8.toNat).sum
theorem preSum_byt (l : List UInt8) : ∀ n, n ≤ l.length → preSum (fun i => (((l.getD i 0).toNat : Nat) : Int)) n = ((sumB (l.take n) : Nat) : Int)
  | 0, _ => by simp [preSum, sumB]
  | n + 1, h => by
    have e : l[n]? = some (l.getD n 0) := by rw [List.getD_eq_getElem?_getD, List.getElem?_eq_getElem (by omega)] <;> rfl
    show preSum _ n + _ = _
    rw [preSum_byt l n (by omega), List.take_add_one, e]
    unfold sumB
    simp
def rSumB : List V → Hp → VK → Prop := fun xs H Q => ∃ l : List UInt8, xs = [.byt l.toArray] ∧ Q (.int ((sumB l : Nat) : Int)) H
theorem cr_sumB (hc : X.calm = true) : CallR X (.builtin "sum") rSumB := by
  intro pins s σ H xs us Q I r h
  obtain ⟨l, rfl, q⟩ := h
  obtain ⟨u, rfl, ru⟩ := vals1 r
  obtain ⟨t, rfl⟩ := ru
  refine call_sum_walkG (PySem.W.KBw.pyIter_bytes ⟨_, _, _, _, _, _, fun i => (((l.getD i 0).toNat : Nat) : Int), rfl, walks_byt (A := X.A.in1) (I.ok.hd hc) s.heap.objs.size l.toArray t, ⟨_, Heap.get?_push_size _ rfl, rfl, rfl⟩, fun b hb => ?_, fun i v hv => ?_, fun h' tk t' hk => ?_⟩)
  · have e : b = s.heap.objs.size := by simpa using hb
    rw [e, Heap.size_push]
    exact Nat.lt_succ_self _
  · obtain ⟨c, tk, e, rfl⟩ := hv
    have e2 : l[i]? = some c := by rw [← List.getElem?_toArray]; exact e
    exact ⟨tk, by show Value.int _ tk = Value.int (((l.getD i 0).toNat : Nat) : Int) tk; rw [List.getD_eq_getElem?_getD, e2]; rfl⟩
  · have e := preSum_byt l l.length (Nat.le_refl _)
    rw [List.take_length] at e
    refine ⟨.int ((sumB l : Nat) : Int), H, I.kept fun b o ho => hk b o (fun z => ?_) (Heap.get?_push_of_some _ ho), ⟨t', by rw [← e]; simp⟩, q⟩
    exact Nat.ne_of_lt (Heap.lt_size ho) (by simpa using z)

/-! ### int(t, 8) -/
end
namespace Oc
open PySem.NumText PySem.Calls L2.Hx
def IsOct (c : Nat) : Prop := 48 ≤ c ∧ c ≤ 55
def octNum (l : List Nat) : Nat := l.foldl (fun a c => a * 8 + (c - 48)) 0
theorem digit_oct {c : Nat} (h : IsOct c) : digit? c = some (c - 48) := by
  unfold IsOct at h
  unfold digit?
  rw [if_pos (bb h.1 (show c ≤ 57 by omega))]
theorem step_oct {ds : Array Nat} {b : Bool} {c : Nat} (h : IsOct c) : PySem.NumText.step 8 (ds, b) c = some (ds.push (c - 48), true) := by
  unfold PySem.NumText.step
  unfold IsOct at h
  rw [if_neg (by rw [beq_iff_eq]; omega), digit_oct h]
  exact if_pos (by omega)
theorem foldl_oct : ∀ (cs : List Nat) (ds : Array Nat), (∀ c ∈ cs, IsOct c) → cs.foldlM (PySem.NumText.step 8) (ds, true) = some (cs.foldl (fun acc c => acc.push (c - 48)) ds, true)
  | [], _, _ => rfl
  | c :: cs, ds, h => by
    rw [List.foldlM_cons, step_oct (h c (List.mem_cons_self ..))]
    show cs.foldlM (PySem.NumText.step 8) (ds.push (c - 48), true) = _
    exact foldl_oct cs (ds.push (c - 48)) fun d hd => h d (List.mem_cons_of_mem _ hd)
theorem digits_oct {cs : List Nat} (h : ∀ c ∈ cs, IsOct c) (hne : cs ≠ []) : digits? 8 cs = some (cs.foldl (fun acc c => acc.push (c - 48)) #[]) := by
  cases cs with
  | nil => exact absurd rfl hne
  | cons c cs =>
    unfold digits?
    rw [List.foldlM_cons, step_oct (h c (List.mem_cons_self ..))]
    show (cs.foldlM (PySem.NumText.step 8) ((#[] : Array Nat).push (c - 48), true)).bind _ = _
    rw [foldl_oct cs _ fun d hd => h d (List.mem_cons_of_mem _ hd)]
    rfl
theorem push_oct : ∀ (cs : List Nat) (ds : Array Nat), (cs.foldl (fun acc c => acc.push (c - 48)) ds).foldl (fun acc d => acc * 8 + d) 0 = cs.foldl (fun a c => a * 8 + (c - 48)) (ds.foldl (fun acc d => acc * 8 + d) 0)
  | [], _ => rfl
  | c :: cs, ds => by
    rw [List.foldl_cons, push_oct cs (ds.push (c - 48)), List.foldl_cons]
    congr 1
    simp
theorem oct_hex {cs : List Nat} (h : ∀ c ∈ cs, IsOct c) : ∀ c ∈ cs, L2.Hx.IsHex c := fun c hc => by
  have z := h c hc
  unfold IsOct at z
  exact .inl ⟨z.1, by omega⟩
theorem prefO {cs : List Nat} (h : ∀ c ∈ cs, IsOct c) : PySem.NumText.prefix? cs = none := by
  match cs, h with
  | [], _ => rfl
  | [a], _ =>
    unfold PySem.NumText.prefix?
    split
    · rename_i e
      cases e
    · rfl
  | a :: c :: r, h =>
    have hc := h c (List.mem_cons_of_mem _ (List.mem_cons_self ..))
    unfold IsOct at hc
    by_cases ha : a = 48
    · subst ha
      have e : PySem.NumText.prefix? (48 :: c :: r) = if (c == 120 || c == 88) = true then some 16 else if (c == 111 || c == 79) = true then some 8 else if (c == 98 || c == 66) = true then some 2 else none := rfl
      rw [e, if_neg (by rw [Bool.or_eq_true, beq_iff_eq, beq_iff_eq]; omega), if_neg (by rw [Bool.or_eq_true, beq_iff_eq, beq_iff_eq]; omega), if_neg (by rw [Bool.or_eq_true, beq_iff_eq, beq_iff_eq]; omega)]
    · unfold PySem.NumText.prefix?
      split
      · rename_i e
        exact absurd (List.cons.inj e).1 ha
      · rfl
theorem basedO {cs : List Nat} (h : ∀ c ∈ cs, IsOct c) : based 8 cs = (8, false, cs) := by
  unfold based
  rw [prefO h] <;> rfl
theorem read_oct {cs : List Nat} (h : ∀ c ∈ cs, IsOct c) (hne : cs ≠ []) : (int_private% "readNumeral") 0 8 cs = (int_private% "Numeral.value") ((octNum cs : Nat) : Int) := by
  have hr : ∀ c ∈ cs.reverse, IsOct c := fun c hc => h c (List.mem_reverse.mp hc)
  refine (readNumeral_eq 0 8 cs).trans ?_
  rw [dropB (oct_hex h), signH (oct_hex h)]
  show judge 0 false (based 8 cs).1 (based 8 cs).2.1 (digits? (based 8 cs).1 (((based 8 cs).2.2.reverse.dropWhile blank).reverse)) = _
  rw [basedO h]
  show judge 0 false 8 false (digits? 8 ((cs.reverse.dropWhile blank).reverse)) = _
  rw [dropB (oct_hex hr), List.reverse_reverse, digits_oct h hne]
  show (int_private% "Numeral.value") (((cs.foldl (fun acc c => acc.push (c - 48)) (#[] : Array Nat)).foldl (fun acc d => acc * 8 + d) 0 : Nat) : Int) = _
  have z : (#[] : Array Nat).foldl (fun acc d => acc * 8 + d) 0 = 0 := by first | rfl | simp
  rw [push_oct, z] <;> rfl
theorem gives_oct {x : PySem.Str} {u t : Tok} (hl : x.length ≤ 640) (h : ∀ c ∈ x.cps.toList, IsOct c) (hne : x.cps.toList ≠ []) :
    Gives (Builtin.«int.__new__» ⟨[.type "int", .str x u, .int 8 t], []⟩) (.int ((octNum x.cps.toList : Nat) : Int)) :=
  .of_wp fun M A E s Q hQ => by
    obtain ⟨hp, g, d, tk, os⟩ := s
    have f1 := F.conv_sub_int
    have f2 := F.madeHere_int
    have f6 : typeOf (.str x u) = pure (.type "str") := rfl
    obtain ⟨e1, e2⟩ := seen_hex (oct_hex h)
    have hs : (numSeenOf x).length ≤ 640 := by
      rw [e2, Array.length_toList]
      exact hl
    have hr : (int_private% "readNumeral") 0 8 (numSeenOf x) = (int_private% "Numeral.value") ((octNum x.cps.toList : Nat) : Int) := by
      rw [e2]
      exact read_oct h hne
    have ha : ((numSeenOf x).length == (numTextOf x).length) = true := by
      rw [e1, e2]
      exact beq_self_eq_true _
    have hk := Hid.mk (And.intro hs (And.intro hr ha))
    clear hs hr ha e1 e2 hl hne h
    repeat (any_goals (first
      | assumption
      | ((with_reducible show wpAny _ _ ((int_private% "intFromText") _ _ _) _ _ _); refine wp_textB hk.out.1 hk.out.2.1 hk.out.2.2 ?_)
      | wp_step))
    all_goals first | exact ⟨_, rfl, hQ⟩ | skip
theorem call_oct {prog : Program} {w : World} {A : Around} {E : Value → Shared → Prop} {s : Shared} {Q : Value → Shared → Prop} {x : PySem.Str} {u t : Tok} (hl : x.length ≤ 640) (h : ∀ c ∈ x.cps.toList, IsOct c) (hne : x.cps.toList ≠ [])
    (hQ : Q (.int ((octNum x.cps.toList : Nat) : Int) s.toks) { s with toks := s.toks + 1 }) : wpAny (model prog w) A (call (.type "int") [.str x u, .int 8 t]) Q E s :=
  callType_new F.called_int F.newNe_int (typeCall_int_2 _ _) (newCall_int_2 _ _) (fun obj => F.initArgs_range_2 obj _ _) F.entry_int_new (gives_oct hl h hne).meets (show (Made.int ((octNum x.cps.toList : Nat) : Int)).post _ s from ⟨rfl, hQ⟩)
end Oc
section
variable {X : Cx}
def rIntOct : List V → Hp → VK → Prop := fun xs H Q => ∃ l : List Nat, xs = [.str (SX.S l), .int 8] ∧ l ≠ [] ∧ l.length ≤ 640 ∧ (∀ c ∈ l, Oc.IsOct c) ∧ Q (.int ((Oc.octNum l : Nat) : Int)) H
theorem call_int_oct : CallR X (.type "int") rIntOct := by
  intro pins s σ H xs us Q I r h
  obtain ⟨l, rfl, hne, hl, hx, q⟩ := h
  obtain ⟨u, w', rfl, r1, r2⟩ := vals2 r
  obtain ⟨t1, rfl⟩ := r1
  obtain ⟨t2, rfl⟩ := r2
  exact Oc.call_oct (x := SX.S l) (by rw [SX.S_len]; exact hl) hx hne ⟨.int ((Oc.octNum l : Nat) : Int), H, I.tok _, ⟨_, rfl⟩, q⟩
/-- c * n, c one sign -/
def rMulS : R2 := fun x y H Q => ∃ (c : Nat) (n : Int), x = .str (SX.S [c]) ∧ y = .int n ∧ -1000000 ≤ n ∧ n ≤ 1000000 ∧ Q (.str (SX.S (List.replicate n.toNat c))) H
theorem fold_rep (c : Nat) : ∀ (k : Nat) (a : Array Nat), (List.replicate k (SX.S [c]).cps).foldl (· ++ ·) a = a ++ (List.replicate k c).toArray
  | 0, a => by simp
  | k + 1, a => by
    rw [List.replicate_succ, List.foldl_cons, fold_rep c k, List.replicate_succ]
    show a ++ #[c] ++ _ = _
    apply Array.toList_inj.mp
    simp
theorem op_mul_str : OpR X (binaryOp .Mult) rMulS := by
  intro pins s σ H x y v u Q I rx ry h
  obtain ⟨c, n, rfl, rfl, h1, h2, q⟩ := h
  obtain ⟨t, rfl⟩ := rx
  obtain ⟨t', rfl⟩ := ry
  have hl : (SX.S [c]).length = 1 := rfl
  refine PySem.P.mul_str (x := SX.S [c]) (by rw [decide_eq_false (by omega), decide_eq_false (by omega)]; rfl) (fun a b => ?_) (fun a b => ?_) ?_
  · rw [hl]
    have e : (1 : Int) ≤ (2 ^ 63 - 1) / n := by
      rw [Int.le_ediv_iff_mul_le (by omega)]
      omega
    omega
  · rw [hl]
    exact decide_eq_false (by show ¬ (1 * n.toNat > 2 ^ 24); omega)
  · by_cases hn : n < 1
    · rw [if_pos hn]
      have e : n.toNat = 0 := by omega
      refine ⟨by decide, ⟨.str (SX.S (List.replicate n.toNat c)), H, I.tok _, ⟨s.toks, ?_⟩, q⟩⟩
      rw [e]
      rfl
    · rw [if_neg hn]
      by_cases h3 : (n == 1 || (SX.S [c]).length == 0) = true
      · rw [if_pos h3]
        have e : n = 1 := by
          rw [hl] at h3
          simpa using h3
        subst e
        exact ⟨.str (SX.S (List.replicate (1 : Int).toNat c)), H, I, ⟨t, rfl⟩, q⟩
      · rw [if_neg h3]
        have e : (List.replicate n.toNat (SX.S [c]).cps).foldl (· ++ ·) (#[] : Array Nat) = (List.replicate n.toNat c).toArray := by
          rw [fold_rep]
          simp
        refine ⟨?_, ⟨.str (SX.S (List.replicate n.toNat c)), H, I.tok _, ⟨s.toks, ?_⟩, q⟩⟩
        · show (Str.mk ((List.replicate n.toNat (SX.S [c]).cps).foldl (· ++ ·) (#[] : Array Nat))).length ≤ sizeLine
          rw [e, sizeLine_eq]
          show (List.replicate n.toNat c).toArray.size ≤ _
          rw [List.size_toArray, List.length_replicate]
          omega
        · show Value.str _ _ = Value.str _ _
          rw [e]
/-- f"{n:o}" -/
def octT (n : Nat) : List Nat := (Nat.toDigits 8 n).map Char.toNat
def octDs (D : List Nat) : List Nat := if D.isEmpty = true then [] else List.replicate ((0 : Int).toNat - D.length) 48 ++ D
theorem octT_ne (n : Nat) : octT n ≠ [] := by
  unfold octT
  intro e
  have e2 : Nat.toDigits 8 n = [] := by simpa using e
  exact Nat.toDigits_ne_nil e2
theorem octDs_eq (n : Nat) : octDs (octT n) = octT n := by
  unfold octDs
  have h := octT_ne n
  rw [if_neg (by simpa using h)]
  simp
theorem fmtO_eq {n : Nat} {t u : Tok} : Builtin.«int.__format__» ⟨[.int (n : Int) t, .str (Str.ofString "o") u], []⟩ = (typeNameOf (.str (Str.ofString "o") u) >>= fun _ => typeNameOfCut 200 (.int (n : Int) t) >>= fun _ =>
    PySem.retStr ⟨(List.replicate ((-1 : Int) - 0 - ((octDs (octT n)).length : Int)).toNat 32 ++ [] ++ [] ++ List.replicate 0 32 ++ octDs (octT n) ++ [] ++ List.replicate 0 32).toArray⟩) := by kernel_rfl
open PySem.W PySem.Builtin in
theorem meets_fmtO {n : Nat} {t u : Tok} (hz : (octT n).length ≤ 1000) : Meets (Builtin.«int.__format__» ⟨[.int (n : Int) t, .str (Str.ofString "o") u], []⟩) (fun _ R s => ∀ t' k, R (.ok (.ret (.str (SX.S (octT n)) t'))) { s with toks := k }) := by
  apply KPc.meets_of
  intro _ _ _ _ _ _ hQ
  rw [fmtO_eq]
  refine wpAny_bind (wpAny_typeNameOf (T := "str") (typeIs_str _ _ _) (by decide) fun _ => ?_)
  refine wpAny_bind (wpAny_typeNameOfCut_int ?_)
  have e0 : ((-1 : Int) - 0 - ((octDs (octT n)).length : Int)).toNat = 0 := by omega
  refine KXf.ret_text (T := SX.S (octT n)) ?_ ?_ hQ
  · rw [e0, octDs_eq]
    simp
  · rw [e0, octDs_eq, sizeLine_eq]
    show (List.toArray _).size ≤ _
    simp
    omega
/-- f"{n:o}", n at least 0 -/
def tFmtO (te : TE) : TE := fun σ H Q => te σ H fun x H1 => ∃ n : Nat, x = .int (n : Int) ∧ (octT n).length ≤ 1000 ∧ Q (.str (SX.S (octT n))) H1
theorem pe_fmtO {e : Expr} {te : TE} {j : Nat} {p1 p2 p3 pos : Pos} (he : PE X e te) : PE X (.JoinedStr [.FormattedValue e (-1) (some (.JoinedStr [.Constant (.str "o") j p1] p2)) p3] pos) (tFmtO te) := by
  refine ⟨fun pins s σ H Q I h => wpAny_JoinedStr_one (wpAny_FormattedValue_spec (thn (he.run pins s σ H _ I h) fun v s1 ⟨x, H1, I1, r1, n, ex, hz, q⟩ => ?_))⟩
  subst ex
  obtain ⟨t, rfl⟩ := r1
  refine wpAny_JoinedStr_one ((pe_str (X := X) (x := "o")).run pins s1 σ H1 (fun v H2 => v = .str "o" ∧ H2 = H1) I1 ⟨rfl, rfl⟩ |> fun z => thn z fun r s2 ⟨y, H2, I2, r2, ey, eH⟩ => ?_)
  subst ey eH
  obtain ⟨t2, rfl⟩ := r2
  refine ⟨_, _, rfl, ?_⟩
  exact PySem.W.KXf.field_int (spec' := Str.ofString "o") rfl (by decide) (by decide) (fun u => meets_fmtO hz) fun t' k => ⟨.str _, H2, I2.tok k, ⟨_, rfl⟩, q⟩
end
end Tar

/-! TaR2 -/
set_option Elab.async false
set_option linter.all false
set_option maxRecDepth 100000
set_option maxHeartbeats 4000000
/-! rules of my own, 2: decode("ascii"), bytes(), match over a text -/
namespace Tar
open PySem PySem.Spec PyProof.Rows L2

namespace Asc
open PySem.W PySem.W.KBdo PySem.Builtin
theorem run_ascii {b : Array UInt8} (ha : ∀ p, p < b.size → (b.getD p 0).toNat < 128) (hz : b.size ≤ 16777216) (id : String) :
    _codecs.runDecoder id _codecs.asciiDecoder none true b 0 [] = pure ((b.toList.map UInt8.toNat).toArray, b.size) := by
  have big : ∀ p, ¬ ((out b p).size > sizeLine) := fun p => by
    have h := out_size b p
    rw [sizeLine_eq]
    omega
  have found : ∀ p, (b.getD p 0).toNat < 128 → _codecs.asciiDecoder.find true b p = .text [(b.getD p 0).toNat] (p + 1) := fun p h => by
    show (if (b.getD p 0).toNat < 128 then _codecs.Found.char (b.getD p 0).toNat (p + 1) else _) = _
    rw [if_pos h]
    rfl
  unfold _codecs.runDecoder
  refine (loop_bind (mk := fun p => ((p, out b p, ({} : _codecs.Faults)) : Nat × Array Nat × _codecs.Faults)) (n := b.size) (fun x p hp => ?_)).trans ?_
  · simp only [if_neg (big p), if_neg (Nat.not_le.mpr hp), found p (ha p hp), out_next hp]
  · show pure (out b b.size, b.size) = _
    rw [out_whole]
theorem road_eq {b : Array UInt8} {id : String} : _codecs.decodeRoad id b (PySem.Str.ofString "ascii") none [] = (_codecs.runDecoder id _codecs.asciiDecoder none true b 0 [] >>= fun r => mkStr ⟨r.1⟩) := by kernel_rfl
theorem meets_text {b : Array UInt8} {x : PySem.Str} {n : Nat} {t t1 t2 : Tok} {d : PySem.Str} (hd : ∀ id, _codecs.runDecoder id _codecs.asciiDecoder none true b 0 [] = pure (x.cps, n)) :
    Meets («_codecs.decode.text» ⟨[.bytes b t, .str (PySem.Str.ofString "ascii") t1, .none, .str d t2], []⟩) (fun _ R s => x.length ≤ sizeLine ∧ R (.ok (.ret (.str x s.toks))) { s with toks := s.toks + 1 }) := by
  refine .of_wp fun prog w A R s hS => ?_
  obtain ⟨hsz, h⟩ := hS
  show wpAny _ _ (Bytes.bytesLike _ (.bytes b t) >>= fun r => _) _ _ s
  refine wpAny_bind (wpAny_of_eq KBd.like_eq ?_)
  refine wpAny_bind (wpAny_of_eq KBd.held_eq ?_)
  show wpAny _ _ (_codecs.decodeRoad _ b (PySem.Str.ofString "ascii") none [] >>= fun v => _) _ _ s
  rw [road_eq, hd]
  refine wpAny_bind (wpAny_bind (wpAny_pure ?_))
  exact wpAny_mkStr (wpAny_pure ⟨_, rfl, h⟩) hsz
theorem entry_eq {c : UInt8} {cs : List UInt8} {t u : Tok} : «bytes.decode» ⟨[.bytes (c :: cs).toArray t, .str (PySem.Str.ofString "ascii") u], []⟩ =
    (mkStr (PySem.Str.ofString "utf-8") >>= fun _ => mkStr (PySem.Str.ofString "ascii") >>= fun e => mkStr (PySem.Str.ofString "bytes.decode") >>= fun d =>
    call (.builtin "_codecs.decode.text") [.bytes (c :: cs).toArray t, e, .none, d] >>= fun v => ret v) := by kernel_rfl
theorem meets_decode {c : UInt8} {cs : List UInt8} {x : PySem.Str} {n : Nat} {t u : Tok} (hd : ∀ id, _codecs.runDecoder id _codecs.asciiDecoder none true (c :: cs).toArray 0 [] = pure (x.cps, n)) :
    Meets («bytes.decode» ⟨[.bytes (c :: cs).toArray t, .str (PySem.Str.ofString "ascii") u], []⟩) (fun _ R s => x.length ≤ sizeLine ∧ ∀ t' k, R (.ok (.ret (.str x t'))) { s with toks := k }) := by
  refine .of_wp fun prog w A R s hS => ?_
  obtain ⟨hsz, h⟩ := hS
  rw [entry_eq]
  refine wpAny_bind (wpAny_mkStr ?_ (by decide))
  refine wpAny_bind (wpAny_mkStr ?_ (by decide))
  refine wpAny_bind (wpAny_mkStr ?_ (by decide))
  exact wpAny_bind (call_function_meets KBd.kind_text KBd.plain_text KBd.entry_text (KBd.args_text _ _ _ _) (meets_text hd) ⟨hsz, wpAny_pure ⟨_, rfl, h _ _⟩⟩)
theorem meets_empty {t u : Tok} : Meets («bytes.decode» ⟨[.bytes #[] t, .str (PySem.Str.ofString "ascii") u], []⟩) (fun _ R s => ∀ t' k, R (.ok (.ret (.str PySem.Str.empty t'))) { s with toks := k }) := by
  refine .of_wp fun prog w A R s h => ?_
  have e : «bytes.decode» ⟨[.bytes #[] t, .str (PySem.Str.ofString "ascii") u], []⟩ = (rule "bytes.decode.empty" >>= fun _ => mkStr PySem.Str.empty >>= fun v => ret v) := by first | kernel_rfl | rfl
  rw [e]
  exact wpAny_bind (wpAny_rule (wpAny_bind (wpAny_mkStr (wpAny_pure ⟨_, rfl, h _ _⟩) (by decide))))
theorem args_decode_2 (a b : Value) : argsOk "bytes.decode" ⟨[a, b], []⟩ := by unfold argsOk; kernel_rfl
end Asc
section
variable {X : Cx}
/-- b.decode("ascii"), all bytes below 128 -/
def rDecode : V → List V → Hp → VK → Prop := fun x xs H Q => ∃ l : List UInt8, x = .byt l.toArray ∧ xs = [.str "ascii"] ∧ (∀ c ∈ l, c.toNat < 128) ∧ l.length ≤ 16777216 ∧ Q (.str (SX.S (l.map UInt8.toNat))) H
theorem mt_decode : MtR X "bytes.decode" rDecode := by
  intro pins s σ H x xs v us Q I rx rs h
  obtain ⟨l, rfl, rfl, ha, hz, q⟩ := h
  obtain ⟨t, rfl⟩ := rx
  obtain ⟨u, rfl, ru⟩ := vals1 rs
  obtain ⟨t2, rfl⟩ := ru
  cases l with
  | nil => exact call_meets PySem.W.FB.slot_bytes_decode (PySem.W.typeIs_bytes _ _ _) PySem.W.FB.entry_bytes_decode (Asc.args_decode_2 _ _) Asc.meets_empty fun t' k => ⟨.str (SX.S []), H, I.tok k, ⟨t', rfl⟩, q⟩
  | cons c r =>
    have hd : ∀ id, Builtin._codecs.runDecoder id Builtin._codecs.asciiDecoder none true (c :: r).toArray 0 [] = pure ((SX.S ((c :: r).map UInt8.toNat)).cps, (c :: r).toArray.size) := fun id =>
      Asc.run_ascii (fun p hp => by
        have e : (c :: r)[p]? = some ((c :: r).toArray.getD p 0) := by
          have hp2 : p < (c :: r).length := by simpa using hp
          rw [List.getElem?_eq_getElem hp2]
          simp [Array.getD]
          intro z
          simp at hp2
          omega
        exact ha _ (List.mem_of_getElem? e)) (by simpa using hz) id
    exact call_meets PySem.W.FB.slot_bytes_decode (PySem.W.typeIs_bytes _ _ _) PySem.W.FB.entry_bytes_decode (Asc.args_decode_2 _ _) (Asc.meets_decode hd) ⟨by rw [SX.S_len, List.length_map, sizeLine_eq]; exact hz, fun t' k => ⟨.str _, H, I.tok k, ⟨_, rfl⟩, q⟩⟩
/-! ### match over a text -/
structure PM (X : Cx) (cases : List MatchCase) (t : Str → TS) : Prop where
  run : ∀ (pins : List (Addr × Obj)) (s : Shared) (σ : L2.St) (H : Hp) (D : Ends) (x : Str) (tk : Tok) (first : Bool), Inv X pins σ H s → t x D σ H → wpAny (model X.prog X.w) X.A (matchCases cases X.env (.str x tk) first) (SP X pins D) X.xe s
theorem pm_nil : PM X [] (fun _ => tNext) := ⟨fun _ _ σ H _ _ _ _ I h => wpAny_matchCases_nil ⟨σ, H, I, h⟩⟩
theorem pm_any {body : List Stmt} {rest : List MatchCase} {t : TS} {p : Pos} (hb : PSs X body t) : PM X (⟨.MatchAs none none p, none, body⟩ :: rest) (fun _ => t) := by
  refine ⟨fun pins s σ H D x tk first I h => wpAny_matchCases_cons (wpAny_matchPattern_Capture ?_)⟩
  exact assignInOrder_nil (hb.run pins s σ H D I h)
def tCase (c : Str) (t : TS) (u : Str → TS) : Str → TS := fun x D σ H => if x = c then t D σ H else u x D σ H
theorem pm_str {c : Str} {j : Nat} {body : List Stmt} {rest : List MatchCase} {t : TS} {u : Str → TS} {p p2 : Pos} (hb : PSs X body t) (hr : PM X rest u) : PM X (⟨.MatchValue (.Constant (.str c) j p) p2, none, body⟩ :: rest) (tCase c t u) := by
  refine ⟨fun pins s σ H D x tk first I h => wpAny_matchCases_cons (wpAny_matchPattern_Value ?_)⟩
  refine Calls.Constant_str (eq_str (wpAny_truthy_bool ?_))
  have I1 : Inv X pins σ H { s with toks := s.toks + 1 } := I.tok _
  by_cases e : x = c
  · subst e
    have h' : t D σ H := by
      have z : (if x = x then t D σ H else u x D σ H) := h
      rw [if_pos rfl] at z
      exact z
    rw [beq_self_eq_true]
    exact assignInOrder_nil (hb.run pins _ σ H D I1 h')
  · have h' : u x D σ H := by
      have z : (if x = c then t D σ H else u x D σ H) := h
      rw [if_neg e] at z
      exact z
    rw [show (x == c) = false from beq_eq_false_iff_ne.mpr e]
    exact hr.run pins _ σ H D x tk false I1 h'
def tMatch (te : TE) (tm : Str → TS) : TS := fun D σ H => te σ H fun v H1 => ∃ x, v = .str x ∧ tm x D σ H1
theorem ps_match {e : Expr} {te : TE} {cases : List MatchCase} {tm : Str → TS} {pos : Pos} (he : PE X e te) (hm : PM X cases tm) : PS X (.Match e cases pos) (tMatch te tm) := by
  refine ⟨fun pins s σ H D I h => wpAny_Match (thn (he.run pins s σ H _ I h) fun v s1 ⟨y, H1, I1, r1, x, ex, q⟩ => ?_)⟩
  subst ex
  obtain ⟨tk, rfl⟩ := r1
  exact hm.run pins s1 σ H1 D x tk true I1 q
/-- d != {} -/
def rNeD0 : R2 := fun x y H Q => ∃ a b ks, x = .ref a ∧ y = .ref b ∧ H a = some (.dK ks) ∧ H b = some (.dK []) ∧ Q (.bl (!ks.isEmpty)) H
theorem op_ne_dict0 (hu : X.A.units < cLine) : OpR X (compareOp .NotEq) rNeD0 := by
  intro pins s σ H x y v u Q I rx ry h
  obtain ⟨a, b, ks, rfl, rfl, ea, eb, q⟩ := h
  obtain rfl : v = Value.ref a := rx
  obtain rfl : u = Value.ref b := ry
  obtain ⟨_, ya, va, ra, da⟩ := (show ObjOk X.prog X.w H s.heap a (.dK ks) from I.hok a _ ea)
  obtain ⟨_, yb, vb, rb, db⟩ := (show ObjOk X.prog X.w H s.heap b (.dK []) from I.hok b _ eb)
  cases rb
  cases ks with
  | nil =>
    cases ra
    exact PySem.W.keq_ne (knd := mixKind X.prog X.w) (r := true) ya yb da db hu (fun _ => hits_all .nil .nil (fun p hp => by cases hp)) (fin_bl I q (by simp))
  | cons k r =>
    cases ra with
    | cons r1 r2 =>
      exact PySem.W.keq_ne (knd := mixKind X.prog X.w) (r := true) ya yb da db hu (fun e => absurd e (by simp)) (fin_bl I q (by simp))
end
end Tar

/-! TaR3 -/
set_option Elab.async false
set_option linter.all false
set_option maxRecDepth 100000
set_option maxHeartbeats 4000000
/-! rules of my own, 3: a dict that is walked and then forgotten, bytes(), bytes.replace, len((x := e)) -/
namespace Tar
open PySem PySem.Spec PyProof.Rows L2

section
variable {X : Cx}
/-- e gives a tracked object that nobody writes any more -/
def tFrz (te : TE) : TE := fun σ H Q => te σ H fun x H1 => ∃ d u, x = .ref d ∧ H1 d = some u ∧ Mut (some u) ∧ ∀ od, Q x (upd H1 d (.frz od u))
theorem pe_frz {e : Expr} {te : TE} (h : PE X e te) : PE X e (tFrz te) := by
  refine ⟨fun pins s σ H Q I hw => thn (h.run pins s σ H _ I hw) fun v s1 ⟨x, H1, I1, r1, d, u, ex, hd, mu, q⟩ => ?_⟩
  obtain ⟨od, I2⟩ := I1.lock hd mu
  exact ⟨x, _, I2, r1, q od⟩
/-- f((x := e)), f a built-in function -/
def wCB (r : List V → Hp → VK → Prop) (t : TEw) : TEw := fun σ H Q => t σ H fun x σ1 H1 => r [x] H1 fun y H2 => Q y σ1 H2
theorem pew_callB {x : Str} {id : String} {e : Expr} {t : TEw} {r : List V → Hp → VK → Prop} {p pos : Pos} (hc : CallR X (.builtin id) r) (hg : Gl X x) (hm : X.mg x = none) (hv : bootBuiltins x = some (.builtin id)) (he : PEw X e t)
    (hn : x ≠ "__name__" := by decide) (hdb : (x == ("__debug__" : Str)) = false := by decide) (hs : starEach (e :: []) X.env = (false, eval e X.env) :: starEach [] X.env := by rfl) (hpl : (backTo pos (starEach [] X.env)).any (·.1) = false := by rfl) :
    PEw X (.Call (.Name x p) (e :: []) [] pos) (wCB r t) := by
  refine ⟨fun pins s σ H Q I h => ?_⟩
  refine wpAny_Call_Name_kw (ld_blt I hg hm hv ?_ hn hdb)
  refine PyProof.Rows.callWith_builtin1 ?_ hs hpl
  rw [hs]
  show wpAny _ _ (spliced ((false, eval e X.env) :: backTo pos (starEach [] X.env))) _ _ s
  refine Calls.spliced_cons (thn (he.run pins s σ H _ I h) fun u s1 ⟨x1, σ1, H1, I1, r1, q1⟩ => Calls.spliced_nil ?_)
  exact thn (hc pins s1 σ1 H1 [x1] [u] _ I1 (.cons r1 .nil) q1) fun v s2 ⟨y, H2, I2, r2, q2⟩ => ⟨y, σ1, H2, I2, r2, q2⟩
end

/-! ### bytes() -/
theorem new0_eq : Builtin.«bytes.__new__» ⟨[.type "bytes"], []⟩ = (mkBytes #[] >>= fun v => ret v) := by kernel_rfl
theorem typeCall0 : checkTypeCall "bytes" ⟨[], []⟩ = pure () := by kernel_rfl
theorem newCall0 : checkBuiltinCall "bytes.__new__" ⟨[.type "bytes"], []⟩ = pure () := by kernel_rfl
/-! ### bytes.replace -/
namespace Rep
open PySem.W PySem.Builtin
theorem slot_replace : Slot "bytes" "replace" "bytes.replace" :=
  .of (owner := "bytes") (n := "replace") (by rw [typeLookup_type, builtinLookup_eq_fast]; kernel_rfl) (by decide +kernel) (by decide +kernel) (by decide +kernel)
    (by first | exact .inl (by decide +kernel) | exact .inr (by decide +kernel)) (by rw [isSubtype_type]; kernel_rfl)
theorem type_replace : typeOf (.builtin "bytes.replace") = pure (.type "method_descriptor") := by show builtinType _ = _; rw [builtinType_eq_fast]; kernel_rfl
theorem entry_replace : entryFor table "bytes.replace" = some Builtin.«bytes.replace» := by first | exact entryFor_of_tree (by kernel_rfl) | exact entryFor_of_fast (by kernel_rfl)
theorem args_replace (a b c : Value) : argsOk "bytes.replace" ⟨[a, b, c], []⟩ := by unfold argsOk; kernel_rfl
/-- what b.replace(old, new) is, old not empty -/
def repA (b old new : Array UInt8) : Array UInt8 := if (Bytes.occurrences b old 0 b.size).isEmpty = true then b else Bytes.joined new (Bytes.between b old.size (Bytes.occurrences b old 0 b.size))
theorem fold_len (f : List Nat × Nat → Nat → List Nat × Nat) (hf : ∀ a i, (f a i).1.length ≤ a.1.length + 1) : ∀ (l : List Nat) (a : List Nat × Nat), (l.foldl f a).1.length ≤ a.1.length + l.length
  | [], a => by simp
  | i :: l, a => by
    have h1 := fold_len f hf l (f a i)
    have h2 := hf a i
    rw [List.foldl_cons, List.length_cons]
    omega
theorem occ_len (b old : Array UInt8) : (Bytes.occurrences b old 0 b.size).length ≤ b.size + 1 := by
  unfold Bytes.occurrences
  rw [List.length_reverse]
  refine Nat.le_trans (fold_len _ (fun a i => ?_) _ _) ?_
  · split
    · simp
    · omega
  · simp
def partOk (n : Nat) (a : Array (Array UInt8)) : Prop := ∀ p ∈ a.toList, p.size ≤ n
theorem betw_fold (b : Array UInt8) (w : Nat) : ∀ (l : List Nat) (a : Array (Array UInt8) × Nat), partOk b.size a.1 →
    partOk b.size (l.foldl (fun (x : Array (Array UInt8) × Nat) p => (x.1.push (b.extract x.2 p), p + w)) a).1 ∧ (l.foldl (fun (x : Array (Array UInt8) × Nat) p => (x.1.push (b.extract x.2 p), p + w)) a).1.size = a.1.size + l.length
  | [], a, h => ⟨h, by simp⟩
  | i :: l, a, h => by
    have h2 : partOk b.size (a.1.push (b.extract a.2 i)) := by
      intro p hp
      rw [Array.toList_push] at hp
      rcases List.mem_append.mp hp with q | q
      · exact h p q
      · rw [List.mem_singleton.mp q, Array.size_extract]
        omega
    have ih := betw_fold b w l (a.1.push (b.extract a.2 i), i + w) h2
    rw [List.foldl_cons]
    refine ⟨ih.1, ?_⟩
    rw [ih.2, List.length_cons, Array.size_push]
    omega
theorem betw_ok (b : Array UInt8) (w : Nat) (l : List Nat) : (∀ p ∈ Bytes.between b w l, p.size ≤ b.size) ∧ (Bytes.between b w l).length = l.length + 1 := by
  have h := betw_fold b w l (#[], 0) (fun p hp => by simp at hp)
  have e : Bytes.between b w l = (((l.foldl (fun (x : Array (Array UInt8) × Nat) p => (x.1.push (b.extract x.2 p), p + w)) (#[], 0)).1).push (b.extract (l.foldl (fun (x : Array (Array UInt8) × Nat) p => (x.1.push (b.extract x.2 p), p + w)) (#[], 0)).2 b.size)).toList := rfl
  rw [e]
  refine ⟨fun p hp => ?_, ?_⟩
  · rw [Array.toList_push] at hp
    rcases List.mem_append.mp hp with q | q
    · exact h.1 p q
    · rw [List.mem_singleton.mp q, Array.size_extract]
      omega
  · rw [Array.toList_push, List.length_append, Array.length_toList, h.2]
    simp
theorem join_len (sep : Array UInt8) (n : Nat) : ∀ (l : List (Array UInt8 × Nat)) (a : Array UInt8), (∀ p ∈ l, p.1.size ≤ n) →
    (l.foldl (fun out (p : Array UInt8 × Nat) => (if p.2 > 0 then out ++ sep else out) ++ p.1) a).size ≤ a.size + l.length * (n + sep.size)
  | [], a, _ => by simp
  | p :: l, a, h => by
    have ih := join_len sep n l ((if p.2 > 0 then a ++ sep else a) ++ p.1) (fun q hq => h q (List.mem_cons_of_mem _ hq))
    have h1 := h p (List.mem_cons_self ..)
    have h2 : ((if p.2 > 0 then a ++ sep else a) ++ p.1).size ≤ a.size + sep.size + n := by
      rw [Array.size_append]
      split
      · rw [Array.size_append]
        omega
      · omega
    rw [List.foldl_cons, List.length_cons, Nat.add_mul]
    omega
theorem rep_len {b old new : Array UInt8} {m : Nat} (hb : b.size ≤ m) (hn : new.size ≤ 1) : (repA b old new).size ≤ (m + 2) * (m + 1) := by
  unfold repA
  split
  · refine Nat.le_trans hb ?_
    rw [Nat.mul_add, Nat.mul_one]
    omega
  · have h1 := betw_ok b old.size (Bytes.occurrences b old 0 b.size)
    have h2 := occ_len b old
    have h3 := join_len new b.size (Bytes.between b old.size (Bytes.occurrences b old 0 b.size)).zipIdx #[] (fun p hp => h1.1 _ (List.fst_mem_of_mem_zipIdx hp))
    have e : Bytes.joined new (Bytes.between b old.size (Bytes.occurrences b old 0 b.size)) = (Bytes.between b old.size (Bytes.occurrences b old 0 b.size)).zipIdx.foldl (fun out (p : Array UInt8 × Nat) => (if p.2 > 0 then out ++ new else out) ++ p.1) #[] := rfl
    rw [e]
    refine Nat.le_trans h3 ?_
    rw [List.length_zipIdx, h1.2]
    have h4 : (Bytes.occurrences b old 0 b.size).length + 1 ≤ m + 2 := by omega
    have h5 : b.size + new.size ≤ m + 1 := by omega
    have h6 := Nat.mul_le_mul h4 h5
    simpa using h6
theorem meets_replace {b old new : Array UInt8} {t u v : Tok} (ho : old.isEmpty = false) (hz : Bytes.tooLong (b.size + (Bytes.occurrences b old 0 b.size).length * new.size) = false) (hz2 : (repA b old new).size ≤ sizeLine) :
    Meets («bytes.replace» ⟨[.bytes b t, .bytes old u, .bytes new v], []⟩) (fun _ R s => ∀ t' k, R (.ok (.ret (.bytes (repA b old new) t'))) { s with toks := k }) := by
  refine .of_wp fun prog w A R s h => ?_
  show wpAny _ _ (Bytes.replaceM .bytes ⟨[.bytes b t, .bytes old u, .bytes new v], []⟩) _ _ s
  unfold Bytes.replaceM
  refine wpAny_bind (wpAny_of_eq (a := (Value.bytes b t, [Value.bytes old u, Value.bytes new v])) rfl ?_)
  dsimp only [List.headD, List.getD]
  refine wpAny_bind (wpAny_of_eq KBd.like_eq ?_)
  refine wpAny_bind (wpAny_of_eq KBd.like_eq ?_)
  refine wpAny_bind (wpAny_of_eq (a := (-1 : Int)) rfl ?_)
  refine wpAny_bind (wpAny_of_eq KBd.like_eq ?_)
  refine wpAny_bind (wpAny_of_eq KBd.like_eq ?_)
  refine wpAny_bind (wpAny_of_eq (a := b) rfl ?_)
  rw [ho]
  simp only [show ((-1 : Int) < 0) from by decide, if_true, Bool.false_eq_true, if_false, Bool.false_and, Bool.or_false]
  by_cases hp : (Bytes.occurrences b old 0 b.size).isEmpty = true
  · rw [if_pos hp]
    have e : repA b old new = b := if_pos hp
    refine wpAny_bind (wpAny_rule (wpAny_bind ?_))
    unfold Bytes.Kind.same
    rw [e] at h
    refine wpAny_bind (wpAny_typeOf (typeIs_bytes s b t) ?_)
    refine bm_if_true (by decide) ?_
    exact wpAny_pure (wpAny_pure ⟨_, rfl, h t s.toks⟩)
  · rw [if_neg hp, hz]
    have e : repA b old new = Bytes.joined new (Bytes.between b old.size (Bytes.occurrences b old 0 b.size)) := if_neg hp
    rw [e] at h hz2
    simp only [Bool.false_eq_true, if_false]
    exact wpAny_bind (wpAny_mkBytes (wpAny_pure ⟨_, rfl, h _ _⟩) (by exact hz2))
end Rep
section
variable {X : Cx}
/-- b.replace(old, new), old not empty, new of one sign -/
def rReplace : V → List V → Hp → VK → Prop := fun x xs H Q => ∃ b old new : List UInt8, x = .byt b.toArray ∧ xs = [.byt old.toArray, .byt new.toArray] ∧ old ≠ [] ∧ new.length ≤ 1 ∧ b.length ≤ 4000 ∧
  Q (.byt (Rep.repA b.toArray old.toArray new.toArray)) H
theorem mt_breplace : MtR X "bytes.replace" rReplace := by
  intro pins s σ H x xs v us Q I rx rs h
  obtain ⟨b, old, new, rfl, rfl, ho, hn, hb, q⟩ := h
  obtain ⟨t, rfl⟩ := rx
  obtain ⟨u, w, rfl, ru, rw⟩ := vals2 rs
  obtain ⟨t1, rfl⟩ := ru
  obtain ⟨t2, rfl⟩ := rw
  have h1 : b.toArray.size ≤ 4000 := by simpa using hb
  have h2 : new.toArray.size ≤ 1 := by simpa using hn
  have h3 := Rep.occ_len b.toArray old.toArray
  have h4 := Rep.rep_len (old := old.toArray) h1 h2
  have h5 : (PySem.Builtin.Bytes.occurrences b.toArray old.toArray 0 b.toArray.size).length * new.toArray.size ≤ (b.toArray.size + 1) * 1 := Nat.mul_le_mul h3 h2
  refine call_meets Rep.slot_replace (PySem.W.typeIs_bytes _ _ _) Rep.entry_replace (Rep.args_replace _ _ _) (Rep.meets_replace ?_ ?_ ?_) fun t' k => ⟨.byt _, H, I.tok k, ⟨_, rfl⟩, q⟩
  · cases old with
    | nil => exact absurd rfl ho
    | cons a b => rfl
  · unfold PySem.Builtin.Bytes.tooLong
    rw [sizeLine_eq]
    exact decide_eq_false (by omega)
  · rw [sizeLine_eq]
    omega
end
section
variable {X : Cx}
def rByt0 : List V → Hp → VK → Prop := fun xs H Q => xs = [] ∧ Q (.byt ([] : List UInt8).toArray) H
theorem meets_new0 : Meets (Builtin.«bytes.__new__» ⟨[.type "bytes"], []⟩) (fun _ R s => ∀ t' k, R (.ok (.ret (.bytes #[] t'))) { s with toks := k }) := by
  refine .of_wp fun prog w A R s h => ?_
  rw [new0_eq]
  exact wpAny_bind (wpAny_mkBytes (wpAny_pure ⟨_, rfl, h _ _⟩) (by decide))
theorem call_bytes_0 : CallR X (.type "bytes") rByt0 := by
  intro pins s σ H xs us Q I r h
  obtain ⟨rfl, q⟩ := h
  cases r
  refine callType_new PySem.F.bm_called (by decide) typeCall0 newCall0 (fun obj => PySem.F.args_object_init_1 obj) PySem.F.bm_entry meets_new0 ?_
  exact fun t' k => ⟨PySem.W.typeIs_bytes _ _ _, .byt #[], H, I.tok k, ⟨t', rfl⟩, q⟩
end
end Tar

/-! TaF -/
set_option Elab.async false
set_option linter.all false
set_option maxRecDepth 100000
set_option maxHeartbeats 4000000
/-! frame: unions of rules, what readings evaluate to, calls -/
namespace Tar
open PySem PySem.Spec PyProof.Rows L2 Evl
/-! ### unions -/
section
variable {X : Cx}
abbrev rAddI : R2 := rI0 fun i j => .int (i + j)
def rAddY : R2 := fun x y H Q => ∃ i j, x = .byt i ∧ y = .byt j ∧ i.size + j.size ≤ 16777216 ∧ Q (.byt (i ++ j)) H
def rAddT : R2 := fun x y H Q => ∃ i j, x = .str i ∧ y = .str j ∧ i.length + j.length ≤ sizeLine ∧ Q (.str (i ++ j)) H
def rAddX : R2 := fun x y H Q => rAddI x y H Q ∨ rAddY x y H Q ∨ rAddT x y H Q ∨ rCat x y H Q
theorem op_addX : OpR X (binaryOp .Add) rAddX := OpR.or op_add (OpR.or op_add_byt (OpR.or op_add_str op_cat))
abbrev rMulI : R2 := rI CMulW fun i j => .int (i * j)
def rMulX : R2 := fun x y H Q => rMulI x y H Q ∨ rRep x y H Q ∨ rMulS x y H Q
theorem op_mulX : OpR X (binaryOp .Mult) rMulX := OpR.or op_mulW (OpR.or op_rep op_mul_str)
abbrev rDivX : R2 := rI CDivW fun i j => .int (i / j)
theorem op_divX : OpR X (binaryOp .FloorDiv) rDivX := op_fdivW
abbrev rModX : R2 := rI (fun _ j => 0 < j) fun i j => .int (i % j)
theorem op_modX : OpR X (binaryOp .Mod) rModX := op_mod
def rEqX (K : PySem.W.Frag) : R2 := fun x y H Q => rEq x y H Q ∨ rEqD K x y H Q
theorem op_eqX {K : PySem.W.Frag} (hu : X.A.units + 64 < cLine) (hK : X.K = K := by rfl) : OpR X (compareOp .Eq) (rEqX K) := by
  subst hK
  exact OpR.or op_eq (op_eqD hu)
def rNeX (K : PySem.W.Frag) : R2 := fun x y H Q => rNe x y H Q ∨ rNeD0 x y H Q
theorem op_neX {K : PySem.W.Frag} (hu : X.A.units + 64 < cLine) (hK : X.K = K := by rfl) : OpR X (compareOp .NotEq) (rNeX K) := by
  subst hK
  exact OpR.or op_ne (op_ne_dict0 (by show X.A.units < cLine; omega))
def rInT : R2 := fun x y H Q => ∃ i j, x = .str i ∧ y = .str j ∧ Q (.bl (!(Builtin.Str.occurrences j i 0 j.length 1).isEmpty)) H
def rInX (K : PySem.W.Frag) : R2 := fun x y H Q => rInT x y H Q ∨ rIn K false x y H Q
theorem op_inX {K : PySem.W.Frag} (hK : X.K = K := by rfl) : OpR X (compareOp .In) (rInX K) := by
  subst hK
  exact OpR.or op_in_str op_in_seq
def rNiX : R2 := fun x y H Q => ∃ i j, x = .str i ∧ y = .str j ∧ Q (.bl (!(!(Builtin.Str.occurrences j i 0 j.length 1).isEmpty))) H
theorem op_niX : OpR X (compareOp .NotIn) rNiX := op_notin_str
def rSlX (K : PySem.W.Frag) : V → Option Int → Option Int → Hp → VK → Prop := fun x lo hi H Q => rSlB x lo hi H Q ∨ C8.rSlX x lo hi H Q ∨ rSlL K x lo hi H Q
theorem sl_X {K : PySem.W.Frag} (hK : X.K = K := by rfl) : SlR X (rSlX K) := by
  subst hK
  exact SlR.or sl_byt (SlR.or C8.sl_txt sl_list)
def rLenX (K : PySem.W.Frag) : List V → Hp → VK → Prop := fun xs H Q => ∃ x n, xs = [x] ∧ LenV K x H n ∧ Q (.int n) H
theorem cr_lenX {K : PySem.W.Frag} (hK : X.K = K := by rfl) : CallR X (.builtin "len") (rLenX K) := by
  subst hK
  exact call_len
def rSumX (K : PySem.W.Frag) : List V → Hp → VK → Prop := fun xs H Q => rSumB xs H Q ∨ rSum K xs H Q
theorem CallR.or' {f : Value} {r r' : List V → Hp → VK → Prop} (h : CallR X f r) (h' : CallR X f r') : CallR X f (fun xs H Q => r xs H Q ∨ r' xs H Q) := fun pins s σ H xs us Q I rr q => q.elim (h pins s σ H xs us Q I rr) (h' pins s σ H xs us Q I rr)
theorem cr_sumX {K : PySem.W.Frag} (hc : X.calm = true) (hK : X.K = K := by rfl) : CallR X (.builtin "sum") (rSumX K) := by
  subst hK
  exact CallR.or' (cr_sumB hc) (cr_sum hc)
def rIsiX (K : PySem.W.Frag) : List V → Hp → VK → Prop := fun xs H Q => rIsi K xs H Q ∨ rIsiT K xs H Q
theorem cr_isiX {K : PySem.W.Frag} (hK : X.K = K := by rfl) : CallR X (.builtin "isinstance") (rIsiX K) := by
  subst hK
  exact CallR.or' call_isi call_isiT
theorem cr_allX {K : PySem.W.Frag} (hc : X.calm = true) (hK : X.K = K := by rfl) : CallR X (.builtin "all") (rAll K) := by
  subst hK
  exact cr_all hc
theorem ix_X {K : PySem.W.Frag} (hK : X.K = K := by rfl) : IxR X (rIx K) := by
  subst hK
  exact ix_seq
theorem pg_tupK {K : PySem.W.Frag} {es : List Expr} {k : Nat} {pos : Pos} {t : TGs} {n : Nat} (hc : X.calm = true) (h : PGs X es t) (hK : X.K = K := by rfl) (hn : (assignEach es X.env).length = n := by rfl) (hst : (assignEach es X.env).findIdx? (·.1) = none := by rfl) : PG X (.Tuple es k pos) (gTup K n t) := by
  subst hK
  exact pg_tup hc h hn hst
theorem pi_listK {K : PySem.W.Frag} {tg l : Expr} {tl : TE} (hl : PE X l tl) (hK : X.K = K := by rfl) : PI X tg l (iList K tl) := by
  subst hK
  exact pi_list hl
theorem pi_tupK {K : PySem.W.Frag} {tg l : Expr} {tl : TE} (hl : PE X l tl) (hK : X.K = K := by rfl) : PI X tg l (iTup K tl) := by
  subst hK
  exact pi_tup hl
theorem pe_fldK {K : PySem.W.Frag} {e : Expr} {f : Str} {pos : Pos} {te : TE} (he : PE X e te) (hb : attributeBase e f X.env (eval e X.env) = eval e X.env) (hK : X.K = K := by rfl) : PE X (.Attribute e f pos) (tFld K te f) := by
  subst hK
  exact pe_fld he hb
theorem pe_conK {K : PySem.W.Frag} {e : Expr} {f : Str} {pos : Pos} {te : TE} (he : PE X e te) (hb : attributeBase e f X.env (eval e X.env) = eval e X.env) (hK : X.K = K := by rfl) : PE X (.Attribute e f pos) (tCon K te f) := by
  subst hK
  exact pe_con he hb
theorem ix_kdictK {K : PySem.W.Frag} {w : World} (hK : X.K = K := by rfl) (hw : X.w = w := by rfl) : IxR X (rIxD K w) := by
  subst hK hw
  exact ix_kdict
def rInt1 : List V → Hp → VK → Prop := fun xs H Q => (∃ i, xs = [.int i] ∧ Q (.int i) H) ∨ ∃ k, xs = [.bl k] ∧ Q (.int (if k then 1 else 0)) H
def rIntS : List V → Hp → VK → Prop := fun xs H Q => ∃ a n, xs = [.str a] ∧ PySem.intText? a = some n ∧ a.length ≤ 640 ∧ Q (.int n) H
def rIntX : List V → Hp → VK → Prop := fun xs H Q => rInt1 xs H Q ∨ rIntS xs H Q ∨ rIntOct xs H Q
theorem cr_intX : CallR X (.type "int") rIntX := CallR.or' call_int1 (CallR.or' call_int_str call_int_oct)
def rOrd : List V → Hp → VK → Prop := fun xs H Q => ∃ x, xs = [.str x] ∧ x.length = 1 ∧ Q (.int (x.cps.getD 0 0 : Nat)) H
theorem cr_ord : CallR X (.builtin "ord") rOrd := call_ord
end
/-! ### names that are not the module's -/
theorem bo_isinstance : bootBuiltins "isinstance" = some (.builtin "isinstance") := by decide +kernel
theorem bo_int : bootBuiltins "int" = some (.type "int") := by decide +kernel
theorem bo_bool : bootBuiltins "bool" = some (.type "bool") := by decide +kernel
theorem bo_list : bootBuiltins "list" = some (.type "list") := by decide +kernel
theorem bo_tuple : bootBuiltins "tuple" = some (.type "tuple") := by decide +kernel
theorem bo_bytes : bootBuiltins "bytes" = some (.type "bytes") := by decide +kernel
theorem bo_str : bootBuiltins "str" = some (.type "str") := by decide +kernel
theorem bo_zip : bootBuiltins "zip" = some (.type "zip") := by decide +kernel
theorem bo_range : bootBuiltins "range" = some (.type "range") := by decide +kernel
theorem bo_super : bootBuiltins "super" = some (.type "super") := by decide +kernel
theorem bo_all : bootBuiltins "all" = some (.builtin "all") := by decide +kernel
theorem bo_len : bootBuiltins "len" = some (.builtin "len") := by decide +kernel
theorem bo_sum : bootBuiltins "sum" = some (.builtin "sum") := by decide +kernel
theorem bo_ord : bootBuiltins "ord" = some (.builtin "ord") := by decide +kernel
theorem bo_min : bootBuiltins "min" = some (.builtin "min") := by decide +kernel
theorem bo_max : bootBuiltins "max" = some (.builtin "max") := by decide +kernel
theorem bo_abs : bootBuiltins "abs" = some (.builtin "abs") := by decide +kernel
structure Nm (mg : Str → Option Value) : Prop where
  n_isinstance : mg "isinstance" = none
  n_int : mg "int" = none
  n_bool : mg "bool" = none
  n_list : mg "list" = none
  n_tuple : mg "tuple" = none
  n_bytes : mg "bytes" = none
  n_str : mg "str" = none
  n_zip : mg "zip" = none
  n_range : mg "range" = none
  n_super : mg "super" = none
  n_all : mg "all" = none
  n_len : mg "len" = none
  n_sum : mg "sum" = none
  n_ord : mg "ord" = none
  n_min : mg "min" = none
  n_max : mg "max" = none
  n_abs : mg "abs" = none
/-! ### calls -/
abbrev FnD (K : PySem.W.Frag) (x : Str) (st : Stmt) (f : Addr) (fd : FuncData) : Prop := FunD K x x (defArgs st) (defBody st) (defScope st) [] [] f fd
structure D0 (K : PySem.W.Frag) (mg : Str → Option Value) (x : Str) (st : Stmt) : Prop where
  ex : ∃ f fd, FnD K x st f fd ∧ mg x = some (.ref f)
section
variable {P : Program} {w : World} {K : PySem.W.Frag} {mg : Str → Option Value} {base : Heap}
theorem calD {x : Str} {st : Stmt} {N ps : List Str} {k : Nat} {sp : Sp} (D : D0 K mg x st)
    (h : ∀ (kV doc pm : Value) (an : Option Addr) (cdv ct : Value) (us : List Value), us.length = ps.length → bindArgs (PySem.W.fnOf x x (defArgs st) (defBody st) (defScope st) .none kV doc pm an cdv ct) ⟨us, []⟩ = pure (ps.zip us))
    (S : FnScope N ps (defScope st)) (len : ∀ vs H Q E, sp vs H Q E → vs.length = ps.length)
    (hbody : ∀ (f : Addr) (cdv : Value) (A : Around) (outer : List Env) (s : Shared) (H : Hp) (vs : List V) (Q : VK) (E : XK), Room k (A.deeper (envOfC x (defScope st) s.heap.objs.size f cdv)) → sp vs H Q E →
      ∃ t, PSs (cxOf C8.CX0 P w K mg base N x (defScope st) f cdv A outer s H E).nox (defBody st) t ∧ t { nx := fun _ H' => Q .non H', rt := Q } (start N vs) H) : C8.Cal P w K mg base (k + 1) x sp [] := by
  obtain ⟨f, fd, F, m⟩ := D.ex
  refine ⟨f, fd, ps, [], F.ok S len fun cdv A outer s H vs Q E hr hs => ?_, m, F.kp, F.bindsN h, .nil⟩
  obtain ⟨t, ht, q⟩ := hbody f cdv A outer s H vs Q E hr hs
  exact ⟨t, ht.nox, q⟩
end
section
variable {X : Cx} {k j : Nat} {x : Str} {sp : Sp} {dvs : List V} {p pos : Pos}
theorem pe_c0 (c : C8.Cal X.prog X.w X.K X.mg X.base k x sp dvs) (hr : Room j X.A) (hk : k ≤ j) (hg : Gl X x) (hdb : (x == ("__debug__" : Str)) = false := by decide) :
    PE X (.Call (.Name x p) [] [] pos) (tCall sp dvs C8.E0 tNil) := by
  obtain ⟨f, fd, ps, ds, F, hm, kp, b, d⟩ := c.ex
  exact pe_call0 F (hr.mono hk) hg hm kp b d C8.pass0 hdb
end
end Tar

/-! TaG -/
set_option Elab.async false
set_option linter.all false
set_option maxRecDepth 100000
set_option maxHeartbeats 4000000
/-! readings: what a term evaluates to -/
namespace Tar
open PySem PySem.Spec PyProof.Rows L2 Evl
/-! ### values told by a relation -/
def Er (te : TE) (σ : L2.St) (H : Hp) (R : V → Hp → Prop) : Prop := ∀ H1, Ex H H1 → ∀ Q : VK, (∀ v H2, Ex H1 H2 → R v H2 → Q v H2) → te σ H1 Q
def ErA (ta : TA) (σ : L2.St) (H : Hp) (R : List V → Hp → Prop) : Prop := ∀ H1, Ex H H1 → ∀ Q : List V → Hp → Prop, (∀ vs H2, Ex H1 H2 → R vs H2 → Q vs H2) → ta σ H1 Q
/-- a relation that stays -/
def Sta (R : V → Hp → Prop) : Prop := ∀ v H H', Ex H H' → R v H → R v H'
section
variable {K : PySem.W.Frag} {σ : L2.St} {H H' : Hp} {ta tb tc te tx : TE} {t u : TT} {x y z v : V} {r r' : R2} {R R1 R2' : V → Hp → Prop}
theorem Er.of (h : Ev te σ H v) (hr : ∀ H1, Ex H H1 → R v H1) : Er te σ H R := fun H1 e Q q => h H1 e Q fun H2 e2 => q v H2 e2 (hr H2 (e.trans e2))
theorem Er.ofL {xs : List V} (h : EvL te σ H xs) (hr : ∀ p H1, H p = none → Ex H H1 → H1 p = some (.lst xs) → R (.ref p) H1) : Er te σ H R := fun H1 e Q q => h H1 e Q fun p H2 hp e2 h2 => q _ H2 e2 (hr p H2 (fresh_back e hp) (e.trans e2) h2)
theorem Er.ofU {xs : List V} (h : EvU te σ H xs) (hr : ∀ p H1, H p = none → Ex H H1 → H1 p = some (.tup xs) → R (.ref p) H1) : Er te σ H R := fun H1 e Q q => h H1 e Q fun p H2 hp e2 h2 => q _ H2 e2 (hr p H2 (fresh_back e hp) (e.trans e2) h2)
theorem Er.mono (e : Ex H H') (h : Er te σ H R) : Er te σ H' R := fun H1 e1 Q q => h H1 (e.trans e1) Q q
theorem Er.imp (h : Er te σ H R) (k : ∀ v H1, Ex H H1 → R v H1 → R1 v H1) : Er te σ H R1 := fun H1 e Q q => h H1 e Q fun v H2 e2 r => q v H2 e2 (k v H2 (e.trans e2) r)
theorem EvL.imp {xs : List V} (h : EvL te σ H xs) : Er te σ H (fun x H1 => ∃ p, x = .ref p ∧ H1 p = some (.lst xs)) := Er.ofL h fun p H1 _ _ h => ⟨p, rfl, h⟩
theorem ErA.nil : ErA tNil σ H (fun vs _ => vs = []) := fun H1 e Q q => q [] H1 (Ex.refl _) rfl
theorem ErA.cons {tr : TA} {RA : List V → Hp → Prop} (h : Er te σ H R) (st : Sta R) (hr : ErA tr σ H RA) : ErA (tCons te tr) σ H (fun vs H1 => ∃ v r, vs = v :: r ∧ R v H1 ∧ RA r H1) := fun H1 e Q q =>
  h H1 e _ fun v H2 e2 rv => hr H2 (e.trans e2) _ fun vs H3 e3 ra => q _ H3 (e2.trans e3) ⟨v, vs, rfl, st v H2 H3 e3 rv, ra⟩
theorem ErA.consV {tr : TA} {RA : List V → Hp → Prop} (h : Ev te σ H v) (hr : ErA tr σ H RA) : ErA (tCons te tr) σ H (fun vs H1 => ∃ r, vs = v :: r ∧ RA r H1) := fun H1 e Q q =>
  h H1 e _ fun H2 e2 => hr H2 (e.trans e2) _ fun vs H3 e3 ra => q _ H3 (e2.trans e3) ⟨vs, rfl, ra⟩
theorem ErA.imp {RA RB : List V → Hp → Prop} {t : TA} (h : ErA t σ H RA) (k : ∀ v H1, Ex H H1 → RA v H1 → RB v H1) : ErA t σ H RB := fun H1 e Q q => h H1 e Q fun v H2 e2 r => q v H2 e2 (k v H2 (e.trans e2) r)
def SpR (sp : Sp) (vs : List V) (H : Hp) (R : V → Hp → Prop) : Prop := ∀ H1, Ex H H1 → ∀ Q : VK, (∀ v H2, Ex H1 H2 → R v H2 → Q v H2) → ∀ E : XK, sp vs H1 Q E
theorem er_call {sp : Sp} {dvs vs : List V} {E : XK} {ta : TA} (h : EvA ta σ H vs) (hs : SpR sp (vs ++ dvs) H R) : Er (tCall sp dvs E ta) σ H R := fun H1 e Q q =>
  h H1 e _ fun H2 e2 => hs H2 (e.trans e2) Q (fun v H3 e3 r => q v H3 (e2.trans e3) r) E
theorem er_callA {sp : Sp} {dvs : List V} {RA : List V → Hp → Prop} {E : XK} {ta : TA} (h : ErA ta σ H RA) (hs : ∀ vs H1, Ex H H1 → RA vs H1 → SpR sp (vs ++ dvs) H1 R) : Er (tCall sp dvs E ta) σ H R := fun H1 e Q q =>
  h H1 e _ fun vs H2 e2 ra => hs vs H2 (e.trans e2) ra H2 (Ex.refl _) Q (fun v H3 e3 r => q v H3 (e2.trans e3) r) E
theorem ev_callA {sp : Sp} {dvs : List V} {RA : List V → Hp → Prop} {E : XK} {ta : TA} (h : ErA ta σ H RA) (hs : ∀ vs H1, Ex H H1 → RA vs H1 → SpV sp (vs ++ dvs) H1 z) : Ev (tCall sp dvs E ta) σ H z := fun H1 e Q q =>
  h H1 e _ fun vs H2 e2 ra => hs vs H2 (e.trans e2) ra H2 (Ex.refl _) Q (fun H3 e3 => q H3 (e2.trans e3)) E
theorem er_if {b : Bool} (h : EvT t σ H b) (h1 : b = true → Er ta σ H R) (h2 : b = false → Er tb σ H R) : Er (tIf t ta tb) σ H R := fun H1 e Q q => h H1 e _ fun H2 e2 => by
  cases b with
  | true =>
    show ta σ H2 Q
    exact h1 rfl H2 (e.trans e2) Q fun v H3 e3 => q v H3 (e2.trans e3)
  | false =>
    show tb σ H2 Q
    exact h2 rfl H2 (e.trans e2) Q fun v H3 e3 => q v H3 (e2.trans e3)
theorem er_var {i : Nat} (h : σ[i]? = some (some v)) (hr : ∀ H1, Ex H H1 → R v H1) : Er (tVar i) σ H R := Er.of (ev_var h) hr
/-- a tuple of told values -/
theorem er_tup {ta : TA} {RA : List V → Hp → Prop} (h : ErA ta σ H RA) (hl : ∀ vs H1, Ex H H1 → RA vs H1 → vs.length ≤ 100000) (k : ∀ p vs H1 H2, Ex H H1 → RA vs H1 → H1 p = none → Ex H1 H2 → H2 p = some (.tup vs) → R (.ref p) H2) : Er (tTup ta) σ H R := fun H1 e Q q =>
  h H1 e _ fun vs H2 e2 ra => ⟨sz_of (hl vs H2 (e.trans e2) ra), fun p hp => q _ _ (e2.trans (Ex.new hp)) (k p vs H2 _ (e.trans e2) ra hp (Ex.new hp) upd_same)⟩
theorem EvA.go {ta : TA} {vs : List V} {Q : List V → Hp → Prop} (h : EvA ta σ H vs) (q : ∀ H1, Ex H H1 → Q vs H1) : ta σ H Q := h H (Ex.refl _) Q q
theorem Ev.go {Q : VK} (h : Ev te σ H v) (q : ∀ H1, Ex H H1 → Q v H1) : te σ H Q := h H (Ex.refl _) Q q
/-! ### statements -/
variable {D : Ends} {tu tw : TS} {tz : TS}
theorem s_asgR {i : Nat} (h : Er te σ H R) (k : ∀ v H1, Ex H H1 → R v H1 → D.nx (σ.set i (some v)) H1) : tAsg te (gName i) D σ H := h H (Ex.refl H) _ fun v H1 e r => k v H1 e r
theorem q_asgR {i : Nat} (h : Er te σ H R) (k : ∀ v H1, Ex H H1 → R v H1 → tz D (σ.set i (some v)) H1) : tSeq (tAsg te (gName i)) tz D σ H := s_asgR (D := { D with nx := tz D }) h k
theorem s_retR (h : Er te σ H R) (k : ∀ v H1, Ex H H1 → R v H1 → D.rt v H1) : tRet te D σ H := h H (Ex.refl H) _ k
/-! ### operations -/
theorem rv_addI {i j : Int} : RV rAddX (.int i) (.int j) H (.int (i + j)) := fun H1 _ _ q => .inl ⟨i, j, rfl, rfl, q H1 (Ex.refl H1)⟩
theorem rv_addY {a b : List UInt8} (h : a.length + b.length ≤ 16777216) : RV rAddX (.byt a.toArray) (.byt b.toArray) H (.byt (a ++ b).toArray) := fun H1 _ _ q => .inr (.inl ⟨a.toArray, b.toArray, rfl, rfl, by simpa using h, by
  have e : a.toArray ++ b.toArray = (a ++ b).toArray := by simp
  rw [e]
  exact q H1 (Ex.refl H1)⟩)
theorem rv_addT {a b : List Nat} (h : a.length + b.length ≤ 16777216) : RV rAddX (.str (SX.S a)) (.str (SX.S b)) H (.str (SX.S (a ++ b))) := fun H1 _ _ q => .inr (.inr (.inl ⟨SX.S a, SX.S b, rfl, rfl, by rw [SX.S_len, SX.S_len, sizeLine_eq]; exact h, by
  rw [SX.S_cat]
  exact q H1 (Ex.refl H1)⟩))
theorem rv_subI {i j : Int} : RV (rI0 fun i j => .int (i - j)) (.int i) (.int j) H (.int (i - j)) := rv_I0
theorem rv_mulI {i j : Int} (h : CMulW i j) : RV rMulX (.int i) (.int j) H (.int (i * j)) := fun H1 _ _ q => .inl ⟨i, j, rfl, rfl, h, q H1 (Ex.refl H1)⟩
theorem rv_mulT {c : Nat} {n : Int} (h : -1000000 ≤ n ∧ n ≤ 1000000) : RV rMulX (.str (SX.S [c])) (.int n) H (.str (SX.S (List.replicate n.toNat c))) := fun H1 _ _ q => .inr (.inr ⟨c, n, rfl, rfl, h.1, h.2, q H1 (Ex.refl H1)⟩)
theorem rv_divI {i j : Int} (h : CDivW i j) : RV rDivX (.int i) (.int j) H (.int (i / j)) := rv_I h
theorem rv_modI {i j : Int} (h : 0 < j) : RV rModX (.int i) (.int j) H (.int (i % j)) := rv_I h
theorem rv_eqX (h : scal x y = true) : RV (rEqX K) x y H (.bl (decide (x = y))) := fun H1 _ _ q => .inl ⟨h, q H1 (Ex.refl H1)⟩
theorem rv_neX (h : scal x y = true) : RV (rNeX K) x y H (.bl (!decide (x = y))) := fun H1 _ _ q => .inl ⟨h, q H1 (Ex.refl H1)⟩
theorem dec_byt {a b : List UInt8} : decide (V.byt a.toArray = V.byt b.toArray) = decide (a = b) := by
  rw [Bool.eq_iff_iff]
  simp
theorem dec_int' {a b : Int} : decide (V.int a = V.int b) = decide (a = b) := by
  rw [Bool.eq_iff_iff]
  simp
theorem dec_txt {a b : List Nat} : decide (V.str (SX.S a) = V.str (SX.S b)) = decide (a = b) := by
  rw [Bool.eq_iff_iff]
  simp only [decide_eq_true_eq]
  exact ⟨fun h => SX.S_inj (V.str.inj h), fun h => by rw [h]⟩
theorem rv_eqY {a b : List UInt8} : RV (rEqX K) (.byt a.toArray) (.byt b.toArray) H (.bl (decide (a = b))) := by rw [← dec_byt]; exact rv_eqX rfl
theorem rv_neY {a b : List UInt8} : RV (rNeX K) (.byt a.toArray) (.byt b.toArray) H (.bl (!decide (a = b))) := by rw [← dec_byt]; exact rv_neX rfl
theorem rv_eqI {a b : Int} : RV (rEqX K) (.int a) (.int b) H (.bl (decide (a = b))) := by rw [← dec_int']; exact rv_eqX rfl
theorem rv_neI {a b : Int} : RV (rNeX K) (.int a) (.int b) H (.bl (!decide (a = b))) := by rw [← dec_int']; exact rv_neX rfl
theorem rv_eqT {a b : List Nat} : RV (rEqX K) (.str (SX.S a)) (.str (SX.S b)) H (.bl (decide (a = b))) := by rw [← dec_txt]; exact rv_eqX rfl
theorem rv_neT {a b : List Nat} : RV (rNeX K) (.str (SX.S a)) (.str (SX.S b)) H (.bl (!decide (a = b))) := by rw [← dec_txt]; exact rv_neX rfl
/-- a text in a text -/
def inT (a b : List Nat) : Bool := !(Builtin.Str.occurrences (SX.S b) (SX.S a) 0 (SX.S b).length 1).isEmpty
theorem inT_one (c : Nat) (b : List Nat) : inT [c] b = decide (c ∈ b) := SX.in_one b c
theorem rv_inT {a b : List Nat} : RV (rInX K) (.str (SX.S a)) (.str (SX.S b)) H (.bl (inT a b)) := fun H1 _ _ q => .inl ⟨SX.S a, SX.S b, rfl, rfl, q H1 (Ex.refl H1)⟩
theorem rv_niT {a b : List Nat} : RV rNiX (.str (SX.S a)) (.str (SX.S b)) H (.bl (!inT a b)) := fun H1 _ _ q => ⟨SX.S a, SX.S b, rfl, rfl, q H1 (Ex.refl H1)⟩
theorem ev_inTup {xs : List V} (ha : Ev ta σ H x) (hb : EvU tb σ H xs) (hx : flatV x = true) (hf : xs.all flatV = true) : Ev (tOp (rInX K) ta tb) σ H (.bl (inV x xs)) := ev_opU ha hb fun p H1 h _ => fun H2 e2 Q q => .inr ⟨p, xs, rfl, Or.inr (ex_t e2 (st_of h)), hx, hf, q H2 (Ex.refl H2)⟩
theorem rv_lt {i j : Int} : RV (rI0 fun i j => .bl (decide (i < j))) (.int i) (.int j) H (.bl (decide (i < j))) := fun H1 _ _ q => ⟨i, j, rfl, rfl, q H1 (Ex.refl H1)⟩
theorem rv_le {i j : Int} : RV (rI0 fun i j => .bl (decide (i ≤ j))) (.int i) (.int j) H (.bl (decide (i ≤ j))) := fun H1 _ _ q => ⟨i, j, rfl, rfl, q H1 (Ex.refl H1)⟩
theorem rv_gt {i j : Int} : RV (rI0 fun i j => .bl (decide (j < i))) (.int i) (.int j) H (.bl (decide (j < i))) := fun H1 _ _ q => ⟨i, j, rfl, rfl, q H1 (Ex.refl H1)⟩
theorem rv_ge {i j : Int} : RV (rI0 fun i j => .bl (decide (j ≤ i))) (.int i) (.int j) H (.bl (decide (j ≤ i))) := fun H1 _ _ q => ⟨i, j, rfl, rfl, q H1 (Ex.refl H1)⟩
theorem rv_isN : RV rIsN x .non H (.bl (decide (x = .non))) := fun H1 _ _ q => ⟨rfl, q H1 (Ex.refl H1)⟩
theorem rv_notN : RV rNotN x .non H (.bl (!decide (x = .non))) := fun H1 _ _ q => ⟨rfl, q H1 (Ex.refl H1)⟩
theorem ev_chain {a b : Bool} (h1 : Ev ta σ H x) (h2 : Ev tb σ H y) (hr : RV r x y H (.bl a)) (h3 : a = true → ∃ w, Ev tc σ H w ∧ RV r' y w H (.bl b)) : Ev (tChain r r' ta tb tc) σ H (.bl (a && b)) := fun H1 e Q q =>
  h1 H1 e _ fun H2 e2 => h2 H2 (e.trans e2) _ fun H3 e3 => hr H3 ((e.trans e2).trans e3) _ fun H4 e4 => ⟨a, rfl, by
    cases a with
    | true =>
      obtain ⟨w, hw, hr2⟩ := h3 rfl
      show tc σ H4 _
      exact hw H4 (((e.trans e2).trans e3).trans e4) _ fun H5 e5 => hr2 H5 ((((e.trans e2).trans e3).trans e4).trans e5) Q fun H6 e6 => q H6 ((((e2.trans e3).trans e4).trans e5).trans e6)
    | false =>
      show Q (.bl false) H4
      exact q H4 ((e2.trans e3).trans e4)⟩
/-! ### slices -/
theorem sl_gen {l : List UInt8} {i j : Nat} : PySem.W.KBy.picked l.toArray (some (i : Int)) (some (j : Int)) = ((l.drop i).take (j - i)).toArray := by
  rw [PySem.W.KBc.picked_eq]
  show ((l.drop (clipAt l.toArray.size (i : Int))).take (clipAt l.toArray.size (j : Int) - clipAt l.toArray.size (i : Int))).toArray = _
  rw [clipAt_nat, clipAt_nat, size_l]
  congr 1
  by_cases hi : i ≤ l.length
  · by_cases hj : j ≤ l.length
    · rw [Nat.min_eq_left hi, Nat.min_eq_left hj]
    · rw [Nat.min_eq_left hi, Nat.min_eq_right (by omega), List.take_of_length_le (by rw [List.length_drop] <;> omega), List.take_of_length_le (by rw [List.length_drop] <;> omega)]
  · rw [Nat.min_eq_right (by omega : l.length ≤ i), List.drop_of_length_le (Nat.le_refl _), List.drop_of_length_le (by omega : l.length ≤ i)]
    simp
theorem sl_to {l : List UInt8} {j : Nat} : PySem.W.KBy.picked l.toArray none (some (j : Int)) = (l.take j).toArray := by
  rw [PySem.W.KBc.picked_eq]
  show ((l.drop 0).take (clipAt l.toArray.size (j : Int) - 0)).toArray = _
  rw [clipAt_nat, size_l]
  congr 1
  by_cases hj : j ≤ l.length
  · rw [Nat.min_eq_left hj]
    rfl
  · rw [Nat.min_eq_right (by omega), List.take_of_length_le (by simp), List.take_of_length_le (by omega)]
    rfl
theorem sl_from {l : List UInt8} {i : Nat} : PySem.W.KBy.picked l.toArray (some (i : Int)) none = (l.drop i).toArray := by
  by_cases hi : i ≤ l.length
  · exact pk_from hi
  · rw [PySem.W.KBc.picked_eq]
    show ((l.drop (clipAt l.toArray.size (i : Int))).take (l.toArray.size - clipAt l.toArray.size (i : Int))).toArray = _
    rw [clipAt_nat, size_l, Nat.min_eq_right (by omega : l.length ≤ i), List.drop_of_length_le (Nat.le_refl _), List.drop_of_length_le (by omega : l.length ≤ i)]
    simp
variable {tl th : TO}
theorem ev_slY {l : List UInt8} {lo hi : Option Int} (h : Ev te σ H (.byt l.toArray)) (h1 : EvO tl σ H lo) (h2 : EvO th σ H hi) (hz : l.length ≤ 16777216) {m : List UInt8} (e : PySem.W.KBy.picked l.toArray lo hi = m.toArray) : Ev (tSl (rSlX K) te tl th) σ H (.byt m.toArray) := fun H1 e1 Q q =>
  h H1 e1 _ fun H2 e2 => h1 H2 (e1.trans e2) _ fun H3 e3 => h2 H3 ((e1.trans e2).trans e3) _ fun H4 e4 => .inl ⟨l.toArray, rfl, by simpa using hz, by
    rw [e]
    exact q H4 ((e2.trans e3).trans e4)⟩
theorem ev_slT {l : List Nat} {lo hi : Option Int} (h : Ev te σ H (.str (SX.S l))) (h1 : EvO tl σ H lo) (h2 : EvO th σ H hi) (hz : l.length ≤ 16777216) {m : List Nat} (e : Txt.slice (SX.S l) lo hi = SX.S m) : Ev (tSl (rSlX K) te tl th) σ H (.str (SX.S m)) := fun H1 e1 Q q =>
  h H1 e1 _ fun H2 e2 => h1 H2 (e1.trans e2) _ fun H3 e3 => h2 H3 ((e1.trans e2).trans e3) _ fun H4 e4 => .inr (.inl ⟨SX.S l, rfl, by rw [SX.S_len, sizeLine_eq]; exact hz, by
    rw [e]
    exact q H4 ((e2.trans e3).trans e4)⟩)
/-! ### built-in calls -/
theorem ev_cb1 {r : List V → Hp → VK → Prop} (h : Ev ta σ H x) (hr : RC r [x] H z) : Ev (tCB r (tCons ta tNil)) σ H z := ev_cb (ea_cons h ea_nil) hr
theorem rc_lenY {l : List UInt8} (h : l.length ≤ 16777216) : RC (rLenX K) [.byt l.toArray] H (.int (l.length : Int)) := fun H1 _ _ q => ⟨_, l.length, rfl, ⟨by rw [sizeLine_eq]; simpa using h, by simp⟩, q H1 (Ex.refl H1)⟩
theorem rc_lenT {l : List Nat} (h : l.length ≤ 16777216) : RC (rLenX K) [.str (SX.S l)] H (.int (l.length : Int)) := fun H1 _ _ q => ⟨_, l.length, rfl, ⟨by rw [sizeLine_eq, SX.S_len]; exact h, by rw [SX.S_len]⟩, q H1 (Ex.refl H1)⟩
theorem rc_lenL {p : Addr} {xs : List V} (h : SqL K H p xs) : RC (rLenX K) [.ref p] H (.int (xs.length : Int)) := fun H1 e _ q => ⟨_, xs.length, rfl, .inl ⟨xs, ex_l e h, rfl⟩, q H1 (Ex.refl H1)⟩
theorem rc_lenU {p : Addr} {xs : List V} (h : SqT K H p xs) : RC (rLenX K) [.ref p] H (.int (xs.length : Int)) := fun H1 e _ q => ⟨_, xs.length, rfl, .inr ⟨xs, ex_t e h, rfl⟩, q H1 (Ex.refl H1)⟩
theorem rc_sumY {l : List UInt8} : RC (rSumX K) [.byt l.toArray] H (.int ((sumB l : Nat) : Int)) := fun H1 _ _ q => .inl ⟨l, rfl, q H1 (Ex.refl H1)⟩
theorem rc_isi {a b : String} {r : Bool} (ty : ∀ H1, Ex H H1 → TyX K H1 x (.type a)) (h : kitB a b = some r) : RC (rIsiX K) [x, .ty b] H (.bl r) := fun H1 e _ q => .inl ⟨x, .ty b, .type a, .type b, r, rfl, .ty b, ty H1 e, kit_ty h, q H1 (Ex.refl H1)⟩
theorem rc_int1 {i : Int} : RC rIntX [.int i] H (.int i) := fun H1 _ _ q => .inl (.inl ⟨i, rfl, q H1 (Ex.refl H1)⟩)
theorem rc_intB {b : Bool} : RC rIntX [.bl b] H (.int (if b then 1 else 0)) := fun H1 _ _ q => .inl (.inr ⟨b, rfl, q H1 (Ex.refl H1)⟩)
theorem rc_intO {l : List Nat} (hn : l ≠ []) (hz : l.length ≤ 640) (ho : ∀ c ∈ l, Oc.IsOct c) : RC rIntX [.str (SX.S l), .int 8] H (.int ((Oc.octNum l : Nat) : Int)) := fun H1 _ _ q => .inr (.inr ⟨l, rfl, hn, hz, ho, q H1 (Ex.refl H1)⟩)
theorem rc_intS {l : List Nat} {n : Int} (h : PySem.intText? (SX.S l) = some n) (hz : l.length ≤ 640) : RC rIntX [.str (SX.S l)] H (.int n) := fun H1 _ _ q => .inr (.inl ⟨_, n, rfl, h, by rw [SX.S_len]; exact hz, q H1 (Ex.refl H1)⟩)
theorem rc_bytN {n : Int} (h0 : 0 ≤ n) (hz : n ≤ 16777216) : RC rBytN [.int n] H (.byt (zs n.toNat).toArray) := fun H1 _ _ q => ⟨n, rfl, h0, hz, q H1 (Ex.refl H1)⟩
theorem rc_bytNn {n : Nat} (hz : n ≤ 16777216) : RC rBytN [.int (n : Int)] H (.byt (zs n).toArray) := fun H1 _ _ q => ⟨n, rfl, by omega, by omega, q H1 (Ex.refl H1)⟩
theorem ev_byt0 : Ev (tCB rByt0 tNil) σ H (.byt ([] : List UInt8).toArray) := fun H1 _ _ q => ⟨rfl, q H1 (Ex.refl H1)⟩
/-- all([..]) over a list of truth values -/
theorem ev_all {bs : List Bool} (h : EvL ta σ H (bs.map V.bl)) : Ev (tCB (rAll K) (tCons ta tNil)) σ H (.bl (bs.all id)) := fun H1 e Q q =>
  h H1 e _ fun p H2 _ e2 h2 => ⟨p, bs, rfl, sq_of h2, q H2 e2⟩
/-! ### methods -/
theorem ev_enc {t : List Nat} (h : Ev te σ H (.str (SX.S t))) (ha : ∀ c ∈ t, c < 128) (hz : t.length ≤ 16777216) : Ev (tBM0 K "str" rEncode te) σ H (.byt (t.map Nat.toUInt8).toArray) := fun H1 e Q q =>
  h H1 e _ fun H2 e2 => ⟨rfl, t, rfl, rfl, ha, hz, q H2 e2⟩
theorem ev_dec {l : List UInt8} {tm : TA} (h : Ev te σ H (.byt l.toArray)) (ha : EvA tm σ H [.str "ascii"]) (hl : ∀ c ∈ l, c.toNat < 128) (hz : l.length ≤ 16777216) : Ev (tMG tyByt rDecode te tm) σ H (.str (SX.S (l.map UInt8.toNat))) := fun H1 e Q q =>
  h H1 e _ fun H2 e2 => ⟨⟨_, rfl⟩, ha H2 (e.trans e2) _ fun H3 e3 => ⟨l, rfl, rfl, hl, hz, q H3 (e2.trans e3)⟩⟩
theorem ev_find {l m : List UInt8} {tm : TA} (h : Ev te σ H (.byt l.toArray)) (hm : EvA tm σ H [.byt m.toArray]) : Ev (tMG tyByt rFind te tm) σ H (.int (PySem.W.KBf.told (PySem.W.KBf.first? (PySem.W.KBw.bInts l.toArray) (PySem.W.KBw.bInts m.toArray)))) := fun H1 e Q q =>
  h H1 e _ fun H2 e2 => ⟨⟨_, rfl⟩, hm H2 (e.trans e2) _ fun H3 e3 => ⟨l, m, rfl, rfl, q H3 (e2.trans e3)⟩⟩
theorem ev_lit {s : Str} {l : List Nat} (e : s = SX.S l) : Ev (tC (.str s)) σ H (.str (SX.S l)) := by rw [e]; exact ev_c
theorem ev_byt {l : List UInt8} : Ev (fun _ H Q => Q (.byt l.toArray) H) σ H (.byt l.toArray) := fun H1 _ _ q => q H1 (Ex.refl H1)
/-! ### comprehensions over texts and bytes, a truth value each -/
theorem given_all {n : Nat} (v : Nat → V) : given n (fun _ => true) v = (List.range n).map v := by
  unfold given
  rw [List.filter_eq_self.mpr (fun _ _ => rfl)]
theorem et_yes : EvT tYes σ H true := fun H1 _ _ q => q H1 (Ex.refl H1)
theorem cw_turnB {f : Nat → Bool} {v : Nat → V} {Dl : Addr} {i : Nat} {σ2 : L2.St} (p : Cw H f v Dl i H') (hi : i < 1000000) (ht : EvT t σ2 H (f i)) (he : f i = true → Ev te σ2 H (v i)) :
    t σ2 H' fun b H3 => if b = true then te σ2 H3 fun y H4 => ∃ acc, H4 Dl = some (.lst acc) ∧ acc.length < sizeLine ∧ Cw H f v Dl (i + 1) (upd H4 Dl (.lst (acc ++ [y]))) else Cw H f v Dl (i + 1) H3 := by
  obtain ⟨p1, p2, p3⟩ := p
  refine ht H' p2 _ fun H3 e3 => ?_
  cases hf : f i with
  | true =>
    show te σ2 H3 fun y H4 => ∃ acc, H4 Dl = some (.lst acc) ∧ acc.length < sizeLine ∧ Cw H f v Dl (i + 1) (upd H4 Dl (.lst (acc ++ [y])))
    refine he hf H3 (p2.trans e3) _ fun H4 e4 => ⟨given i f v, e4 Dl _ (e3 Dl _ p3), by rw [sizeLine_eq]; have := given_len i f v; omega, p1, Ex.mut ((p2.trans e3).trans e4) p1, ?_⟩
    rw [given_yes hf]
    exact upd_same
  | false =>
    show Cw H f v Dl (i + 1) H3
    refine ⟨p1, p2.trans e3, ?_⟩
    rw [given_no hf]
    exact e3 Dl _ p3
theorem el_lcW {J : It} {n : Nat} {wi : TI} {j : Nat} {vs : List Nat} {it : Nat → V} {te : TE} (w : Walk J n (fun _ => True) (fun i H x H' => H' = H ∧ x = it i)) (v : Nat → V)
    (h : ∀ H1, Ex H H1 → ∀ Rr : It → Hp → Prop, (∀ H2, Ex H1 H2 → Rr J H2) → wi σ H1 Rr) (hz : n ≤ 900000) (hw : ∀ x, wipe ((wipe σ vs).set j (some x)) vs = wipe σ vs)
    (he : ∀ (i : Nat) H1, Ex H H1 → i < n → Ev te ((wipe σ vs).set j (some (it i))) H1 (v i)) : EvL (tLc wi (gName j) tYes te vs) σ H ((List.range n).map v) := fun H0 e Q q =>
  h H0 e _ fun H1 e1 Dl hD => lc_it w (Cw H1 (fun _ => true) v Dl) ⟨hD, Ex.new hD, upd_same⟩ (fun _ _ _ _ => True.intro) (fun i x Ha Hb hi p y => by
    obtain ⟨rfl, rfl⟩ := y
    exact ⟨hw _, cw_turnB p (by omega) et_yes (fun _ => he i H1 (e.trans e1) hi)⟩) (fun H' p => by
    have e3 := p.2.2
    rw [given_all] at e3
    exact q Dl H' (fresh_back e1 p.1) (e1.trans p.2.1) e3)
theorem walk_txt {l : List Nat} : Walk (Its (SX.S l)) l.length (fun _ => True) (fun i H x H' => H' = H ∧ x = .str (SX.S [l.getD i 0])) := by
  have w := walk_str (z := SX.S l)
  have e : (SX.S l).cps.size = l.length := by simp [SX.S]
  rw [e] at w
  refine w.mono (fun _ h => h) fun i H x H' hi _ y => ⟨y.1, ?_⟩
  obtain ⟨c, hc, rfl⟩ := y.2
  have h2 : l[i]? = some c := by
    have : (SX.S l).cps[i]? = l[i]? := by simp [SX.S]
    rw [← this]; exact hc
  rw [List.getD_eq_getElem?_getD, h2]
  rfl
theorem walk_byt {l : List UInt8} : Walk (Itb l.toArray) l.length (fun _ => True) (fun i H x H' => H' = H ∧ x = .int (((l.getD i 0).toNat : Nat) : Int)) := by
  refine ⟨fun i H hi _ => ?_, fun H _ => ?_, fun i H x H' hi _ y => ⟨y.1, ?_⟩⟩
  · show i < l.toArray.size
    simpa using hi
  · show l.toArray.size ≤ l.length
    simp
  · obtain ⟨_, c, hc, rfl⟩ := y
    have h2 : l[i]? = some c := by rw [← List.getElem?_toArray]; exact hc
    rw [List.getD_eq_getElem?_getD, h2]
    rfl
theorem map_range_getD {α β : Type} (l : List α) (d : α) (f : α → β) : (List.range l.length).map (fun i => f (l.getD i d)) = l.map f := by
  apply List.ext_getElem
  · simp
  · intro i h1 h2
    simp at h1
    simp [List.getD_eq_getElem?_getD, List.getElem?_eq_getElem h1]
theorem el_lcT {l : List Nat} {tz : TE} {j : Nat} {vs : List Nat} {te : TE} (f : Nat → V) (h : Ev tz σ H (.str (SX.S l))) (hz : l.length ≤ 900000) (hw : ∀ x, wipe ((wipe σ vs).set j (some x)) vs = wipe σ vs)
    (he : ∀ c H1, Ex H H1 → c ∈ l → Ev te ((wipe σ vs).set j (some (.str (SX.S [c])))) H1 (f c)) : EvL (tLc (iStr tz) (gName j) tYes te vs) σ H (l.map f) := by
  have g := el_lcW (H := H) (σ := σ) (wi := iStr tz) (vs := vs) (j := j) (te := te) (walk_txt (l := l)) (fun i => f (l.getD i 0)) (fun H1 e Rr k => h H1 e _ fun H2 e2 => ⟨_, rfl, k H2 e2⟩) hz hw (fun i H1 e hi => he _ H1 e (by
    rw [List.getD_eq_getElem?_getD, List.getElem?_eq_getElem hi]
    exact List.getElem_mem hi))
  rw [map_range_getD l 0 f] at g
  exact g
theorem el_lcY {l : List UInt8} {tz : TE} {j : Nat} {vs : List Nat} {te : TE} (f : UInt8 → V) (h : Ev tz σ H (.byt l.toArray)) (hz : l.length ≤ 900000) (hw : ∀ x, wipe ((wipe σ vs).set j (some x)) vs = wipe σ vs)
    (he : ∀ c H1, Ex H H1 → c ∈ l → Ev te ((wipe σ vs).set j (some (.int ((c.toNat : Nat) : Int)))) H1 (f c)) : EvL (tLc (iByt tz) (gName j) tYes te vs) σ H (l.map f) := by
  have g := el_lcW (H := H) (σ := σ) (wi := iByt tz) (vs := vs) (j := j) (te := te) (walk_byt (l := l)) (fun i => f (l.getD i 0)) (fun H1 e Rr k => h H1 e _ fun H2 e2 => ⟨_, rfl, k H2 e2⟩) hz hw (fun i H1 e hi => he _ H1 e (by
    rw [List.getD_eq_getElem?_getD, List.getElem?_eq_getElem hi]
    exact List.getElem_mem hi))
  rw [map_range_getD l 0 f] at g
  exact g
end
end Tar

/-! TaH -/
set_option Elab.async false
set_option linter.all false
set_option maxRecDepth 100000
set_option maxHeartbeats 4000000
/-! the text, the module's values; facts of methods of bytes -/
namespace Tar
open PySem PySem.Spec PyProof.Rows L2 Evl
theorem slB_find : Slot "bytes" "find" "bytes.find" :=
  .of (owner := "bytes") (n := "find") (by rw [typeLookup_type, builtinLookup_eq_fast]; kernel_rfl) (by decide +kernel) (by decide +kernel) (by decide +kernel)
    (by first | exact .inl (by decide +kernel) | exact .inr (by decide +kernel)) (by rw [isSubtype_type]; kernel_rfl)
theorem slB_join : Slot "bytes" "join" "bytes.join" :=
  .of (owner := "bytes") (n := "join") (by rw [typeLookup_type, builtinLookup_eq_fast]; kernel_rfl) (by decide +kernel) (by decide +kernel) (by decide +kernel)
    (by first | exact .inl (by decide +kernel) | exact .inr (by decide +kernel)) (by rw [isSubtype_type]; kernel_rfl)
theorem slB_replace : Slot "bytes" "replace" "bytes.replace" := Rep.slot_replace
theorem slB_decode : Slot "bytes" "decode" "bytes.decode" := PySem.W.FB.slot_bytes_decode
theorem tpB_find : typeOf (.builtin "bytes.find") = pure (.type "method_descriptor") := by show builtinType _ = _; rw [builtinType_eq_fast]; kernel_rfl
theorem tpB_join : typeOf (.builtin "bytes.join") = pure (.type "method_descriptor") := by show builtinType _ = _; rw [builtinType_eq_fast]; kernel_rfl
theorem tpB_replace : typeOf (.builtin "bytes.replace") = pure (.type "method_descriptor") := by show builtinType _ = _; rw [builtinType_eq_fast]; kernel_rfl
theorem tpB_decode : typeOf (.builtin "bytes.decode") = pure (.type "method_descriptor") := by show builtinType _ = _; rw [builtinType_eq_fast]; kernel_rfl
/-! ### the module's own values -/
def GV (mg : Str → Option Value) (x : Str) (v : V) : Prop := ∃ u, mg x = some u ∧ RelV v u
structure GF (K : PySem.W.Frag) (mg : Str → Option Value) : Prop extends Nm mg where
  c_LETTERS : GV mg "LETTERS" (.str (SX.S kLET))
  c_MOST_NAME : GV mg "MOST_NAME" (.int 250)
  c_MOST_SHORT : GV mg "MOST_SHORT" (.int 100)
  c_MOST_DATA : GV mg "MOST_DATA" (.int 4096)
  c_MOST_PIECES : GV mg "MOST_PIECES" (.int 50)
  c_MOST_MODE : GV mg "MOST_MODE" (.int 4095)
  c_MOST_TIME : GV mg "MOST_TIME" (.int 8589934591)
  c_BLOCK : GV mg "BLOCK" (.int 512)
  c_LONG_NAME : GV mg "LONG_NAME" (.str (SX.S kLL))
  c_MAGIC : GV mg "MAGIC" (.str (SX.S kMAG))
  c_KINDS : GV mg "KINDS" (.str (SX.S kKIN))
  c_END_SIZE : GV mg "END_SIZE" (.int 1024)
/-! ### zfill of a text that begins with no sign -/
def zfN (a : List Nat) (n : Nat) : List Nat := List.replicate (n - a.length) 48 ++ a
theorem zfill_S {a : List Nat} {n : Nat} (h : ∀ c r, a = c :: r → c ≠ 43 ∧ c ≠ 45) : Txt.zfill (SX.S a) (n : Int) = SX.S (zfN a n) := by
  unfold Txt.zfill zfN
  rw [SX.S_len]
  by_cases hn : (n : Int) ≤ (a.length : Int)
  · rw [if_pos hn, show n - a.length = 0 by omega]
    rfl
  · rw [if_neg hn, show ((n : Int).toNat - a.length) = n - a.length by omega]
    unfold zfilled
    have hp : Builtin.Str.padded (SX.S a) (n - a.length) 0 48 = SX.S (List.replicate (n - a.length) 48 ++ a) := by
      unfold Builtin.Str.padded
      refine TL.ext_tl ?_
      simp [TL.tl, SX.S]
    split
    · rename_i e
      cases a with
      | nil => simp [SX.S] at e
      | cons c r =>
        have e2 : c = 43 := by simpa [SX.S] using e
        exact absurd e2 (h c r rfl).1
    · rename_i e
      cases a with
      | nil => simp [SX.S] at e
      | cons c r =>
        have e2 : c = 45 := by simpa [SX.S] using e
        exact absurd e2 (h c r rfl).2
    · exact hp
def rZfill : V → List V → Hp → VK → Prop := fun x xs H Q => ∃ (a : Str) (i : Int), x = .str a ∧ xs = [.int i] ∧ PadOk i = true ∧ Q (.str (Txt.zfill a i)) H
theorem mt_zf {X : Cx} : MtR X "str.zfill" rZfill := mt_zfill
section
variable {K : PySem.W.Frag} {σ : L2.St} {H : Hp} {te : TE}
theorem pad_ok {n : Nat} (h : n ≤ 1000000) : PadOk (n : Int) = true := by
  unfold PadOk fitsSsize Builtin.Str.tooLong
  rw [sizeLine_eq]
  simp
  omega
theorem ev_zf {a : List Nat} {n : Nat} {tn : TA} (h : Ev te σ H (.str (SX.S a))) (hn : EvA tn σ H [.int (n : Int)]) (hz : n ≤ 1000000) (hs : ∀ c r, a = c :: r → c ≠ 43 ∧ c ≠ 45) : Ev (tBM K "str" rZfill te tn) σ H (.str (SX.S (zfN a n))) := fun H1 e Q q =>
  h H1 e _ fun H2 e2 => ⟨rfl, hn H2 (e.trans e2) _ fun H3 e3 => ⟨_, _, rfl, rfl, pad_ok hz, by rw [zfill_S hs]; exact q H3 (e2.trans e3)⟩⟩
end
end Tar

/-! TaM -/
set_option Elab.async false
set_option linter.all false
set_option maxRecDepth 100000
set_option maxHeartbeats 4000000
/-! mirror functions (plain Lean) -/
namespace Tar
open PySem PySem.Spec PyProof.Rows L2 Evl
def oT : Option (List Nat) → V
  | none => .non
  | some t => .str (SX.S t)
def oI : Option Nat → V
  | none => .non
  | some n => .int (n : Int)
def sub (l : List UInt8) (i j : Nat) : List UInt8 := (l.drop i).take (j - i)
def okT (t : List Nat) : Bool := t.all fun c => decide (c ∈ kLET)
def nmT (t : List Nat) : Bool := decide (1 ≤ t.length) && decide (t.length ≤ 250) && okT t
def isName : Option (List Nat) → Bool
  | none => false
  | some t => nmT t
def toB (t : List Nat) : List UInt8 := t.map Nat.toUInt8
def toT (l : List UInt8) : List Nat := l.map UInt8.toNat
def textField (t : List Nat) (w : Nat) : List UInt8 := (toB (t.take w) ++ zs w).take w
def octalField (n w : Nat) : List UInt8 := toB (zfN (octT n) (w - 1)) ++ zs 1
def sumOf (b : List UInt8) : Nat := sumB b - sumB (sub b 148 156) + 256
def checksumField (b : List UInt8) : List UInt8 := octalField (sumOf b) 7 ++ [32]
def magicField : List UInt8 := [117, 115, 116, 97, 114, 0, 48, 48]
def frontOf (name : List Nat) (mode size time : Nat) : List UInt8 := textField name 100 ++ octalField mode 8 ++ octalField 0 8 ++ octalField 0 8 ++ octalField size 12 ++ octalField time 12
def behindOf (kind target : List Nat) : List UInt8 := toB kind ++ textField target 100 ++ magicField ++ zs 247
def header (kind name : List Nat) (mode size time : Nat) (target : List Nat) : List UInt8 :=
  frontOf name mode size time ++ checksumField (frontOf name mode size time ++ zs 8 ++ behindOf kind target) ++ behindOf kind target
def plainB (t : List UInt8) : Bool := t.all fun c => decide (32 ≤ c.toNat) && decide (c.toNat < 127)
def cutZ (f : List UInt8) : List UInt8 := f.takeWhile (fun c => decide (c ≠ 0))
def textOf (f : List UInt8) : Option (List Nat) := if cutZ f ++ zs (f.length - (cutZ f).length) = f ∧ plainB (cutZ f) = true then some (toT (cutZ f)) else none
def octB (d : List Nat) : Bool := d.all fun c => decide (48 ≤ c) && decide (c ≤ 55)
def numberOf (f : List UInt8) : Option Nat := match textOf f with
  | none => none
  | some d => if d.length + 1 = f.length ∧ octB d = true then some (Oc.octNum d) else none
def kindOf (b : List UInt8) : List Nat := (textOf (sub b 156 157)).getD []
def nameOf (b : List UInt8) : Option (List Nat) := textOf (b.take 100)
def targetOf (b : List UInt8) : Option (List Nat) := textOf (sub b 157 257)
def padded (l : List UInt8) : List UInt8 := l ++ zs ((l.length + 511) / 512 * 512 - l.length)
def isTextOf (t : Option (List Nat)) (n : Nat) : Bool := match t with
  | none => false
  | some t => decide (t.length + 1 = n) && okT t
/-! ### octal digits -/
theorem dch : ∀ d : Nat, d < 8 → (Nat.digitChar d).toNat = 48 + d := by decide
theorem octT_small {n : Nat} (h : n < 8) : octT n = [48 + n] := by
  unfold octT
  rw [Nat.toDigits_of_lt_base h]
  show [(Nat.digitChar n).toNat] = _
  rw [dch n h]
theorem octT_big {n : Nat} (h : 8 ≤ n) : octT n = octT (n / 8) ++ [48 + n % 8] := by
  unfold octT
  rw [Nat.toDigits_of_base_le (by decide) h, List.map_append]
  show _ ++ [(Nat.digitChar (n % 8)).toNat] = _
  rw [dch _ (by omega)]
theorem octT_digits (n : Nat) : ∀ c ∈ octT n, 48 ≤ c ∧ c ≤ 55 := by
  induction n using Nat.strongRecOn with
  | ind n ih =>
    intro c hc
    by_cases h : n < 8
    · rw [octT_small h] at hc
      have := List.mem_singleton.mp hc
      omega
    · rw [octT_big (by omega)] at hc
      rcases List.mem_append.mp hc with q | q
      · exact ih (n / 8) (by omega) c q
      · have := List.mem_singleton.mp q
        omega
theorem octNum_snoc (l : List Nat) (c : Nat) : Oc.octNum (l ++ [c]) = Oc.octNum l * 8 + (c - 48) := by
  unfold Oc.octNum
  rw [List.foldl_append]
  rfl
theorem octNum_octT (n : Nat) : Oc.octNum (octT n) = n := by
  induction n using Nat.strongRecOn with
  | ind n ih =>
    by_cases h : n < 8
    · rw [octT_small h]
      show 0 * 8 + (48 + n - 48) = n
      omega
    · rw [octT_big (by omega), octNum_snoc, ih (n / 8) (by omega)]
      omega
theorem octT_len : ∀ (k n : Nat), n < 8 ^ (k + 1) → (octT n).length ≤ k + 1
  | 0, n, h => by rw [octT_small (by simpa using h)]; simp
  | k + 1, n, h => by
    by_cases h8 : n < 8
    · rw [octT_small h8]
      simp
    · rw [octT_big (by omega), List.length_append]
      have := octT_len k (n / 8) (by rw [Nat.pow_succ] at h; omega)
      simp
      omega
/-! ### find of a zero -/
theorem tw_app {p : UInt8 → Bool} : ∀ (a : List UInt8) (r : List UInt8), (∀ c ∈ a, p c = true) → (∀ d t, r = d :: t → p d = false) → (a ++ r).takeWhile p = a
  | [], r, _, h => by
    cases r with
    | nil => rfl
    | cons d t => rw [List.nil_append, List.takeWhile_cons, h d t rfl]; rfl
  | c :: a, r, h1, h => by
    rw [List.cons_append, List.takeWhile_cons, h1 c (List.mem_cons_self ..), if_pos rfl, tw_app a r (fun d hd => h1 d (List.mem_cons_of_mem _ hd)) h]
theorem zero_at {l : List UInt8} {i : Nat} (hi : i < l.length) : (((PySem.W.KBw.bInts l.toArray).drop i).take (PySem.W.KBw.bInts (zs 1).toArray).length == PySem.W.KBw.bInts (zs 1).toArray) = decide (l[i] = 0) := by
  have e1 : PySem.W.KBw.bInts (zs 1).toArray = [0] := rfl
  have e2 : PySem.W.KBw.bInts l.toArray = l.map fun c => (c.toNat : Int) := rfl
  rw [e1, e2, ← List.map_drop, List.drop_eq_getElem_cons hi]
  show ([((l[i]).toNat : Int)] == [0]) = _
  rw [Bool.eq_iff_iff]
  simp
  constructor
  · intro h
    exact UInt8.toNat_inj.mp (by simpa using h)
  · intro h
    rw [h]
    rfl
theorem told_zero (l : List UInt8) : (PySem.W.KBf.told (PySem.W.KBf.first? (PySem.W.KBw.bInts l.toArray) (PySem.W.KBw.bInts (zs 1).toArray)) < 0 → cutZ l = l) ∧
    (¬ PySem.W.KBf.told (PySem.W.KBf.first? (PySem.W.KBw.bInts l.toArray) (PySem.W.KBw.bInts (zs 1).toArray)) < 0 → ∃ k : Nat, PySem.W.KBf.told (PySem.W.KBf.first? (PySem.W.KBw.bInts l.toArray) (PySem.W.KBw.bInts (zs 1).toArray)) = (k : Int) ∧ l.take k = cutZ l) := by
  have hlen : (PySem.W.KBw.bInts l.toArray).length = l.length := by rw [PySem.W.KBw.ints_length]; simp
  have hpl : PySem.W.KBf.places (PySem.W.KBw.bInts l.toArray) (PySem.W.KBw.bInts (zs 1).toArray) = List.range l.length := by
    unfold PySem.W.KBf.places
    rw [hlen]
    rfl
  cases h : PySem.W.KBf.first? (PySem.W.KBw.bInts l.toArray) (PySem.W.KBw.bInts (zs 1).toArray) with
  | none =>
    refine ⟨fun _ => ?_, fun q => absurd (by decide) q⟩
    unfold PySem.W.KBf.first? at h
    rw [hpl, List.find?_eq_none] at h
    have h2 := tw_app (p := fun c => decide (c ≠ 0)) l [] (fun c hc => ?_) (fun d t e => by cases e)
    · rw [List.append_nil] at h2
      exact h2
    · obtain ⟨i, hi, e⟩ := List.getElem_of_mem hc
      have q := h i (List.mem_range.mpr hi)
      unfold PySem.W.KBf.at? at q
      rw [zero_at hi] at q
      rw [← e]
      simpa using q
  | some k =>
    refine ⟨fun q => absurd q (by show ¬ ((k : Int) < 0); omega), fun _ => ⟨k, rfl, ?_⟩⟩
    unfold PySem.W.KBf.first? at h
    rw [hpl, List.find?_range_eq_some] at h
    obtain ⟨h1, h2, h3⟩ := h
    have hk : k < l.length := List.mem_range.mp h2
    have e0 : l[k] = 0 := by
      unfold PySem.W.KBf.at? at h1
      rw [zero_at hk] at h1
      exact of_decide_eq_true h1
    have h4 := tw_app (p := fun c => decide (c ≠ 0)) (l.take k) (l.drop k) (fun c hc => ?_) (fun d t e => ?_)
    · rw [List.take_append_drop] at h4
      exact h4.symm
    · obtain ⟨i, hi, e⟩ := List.getElem_of_mem hc
      rw [List.length_take] at hi
      have q := h3 i (by omega)
      unfold PySem.W.KBf.at? at q
      rw [zero_at (by omega)] at q
      rw [← e, List.getElem_take]
      simpa using q
    · rw [List.drop_eq_getElem_cons hk] at e
      have e3 : l[k] = d := (List.cons.inj e).1
      rw [← e3, e0]
      rfl
theorem cutZ_take (l : List UInt8) : cutZ l = l.take (cutZ l).length := by
  have h := List.takeWhile_prefix (fun c : UInt8 => decide (c ≠ 0)) (l := l)
  exact (List.prefix_iff_eq_take.mp h)
theorem cutZ_len (l : List UInt8) : (cutZ l).length ≤ l.length := List.IsPrefix.length_le (List.takeWhile_prefix _)
end Tar

/-! TaP1 -/
set_option Elab.async false
set_option linter.all false
set_option maxRecDepth 100000
set_option maxHeartbeats 4000000
/-! defs, 1: names, numbers, fields of bytes -/
namespace Tar
open PySem PySem.Spec PyProof.Rows L2 Evl
/-- a promise that a value comes back, nothing known is touched -/
def Ret (v : V) (H : Hp) (Q : VK) : Prop := ∀ H', Ex H H' → Q v H'
section
variable {P : Program} {w : World} {K : PySem.W.Frag} {mg : Str → Option Value} {base : Heap}
theorem Ret.sp {sp : Sp} {vs : List V} {v : V} {H : Hp} (h : ∀ H1, Ex H H1 → ∀ Q E, Ret v H1 Q → sp vs H1 Q E) : SpV sp vs H v := fun H1 e Q q E => h H1 e Q E q
theorem isi_int {H : Hp} {i : Int} {b : String} {r : Bool} (h : kitB "int" b = some r) : RC (rIsiX K) [.int i, .ty b] H (.bl r) := rc_isi (fun _ _ => .base (.int i)) h
theorem isi_str {H : Hp} {i : Str} {b : String} {r : Bool} (h : kitB "str" b = some r) : RC (rIsiX K) [.str i, .ty b] H (.bl r) := rc_isi (fun _ _ => .base (.str i)) h
theorem isi_byt {H : Hp} {i : Array UInt8} {b : String} {r : Bool} (h : kitB "bytes" b = some r) : RC (rIsiX K) [.byt i, .ty b] H (.bl r) := rc_isi (fun _ _ => .byt i) h
theorem isi_non {H : Hp} {b : String} {r : Bool} (h : kitB "NoneType" b = some r) : RC (rIsiX K) [.non, .ty b] H (.bl r) := rc_isi (fun _ _ => .base .non) h
theorem ki1 : kitB "int" "int" = some true := by decide +kernel
theorem ki2 : kitB "int" "bool" = some false := by decide +kernel
theorem ki3 : kitB "str" "str" = some true := by decide +kernel
theorem ki4 : kitB "NoneType" "str" = some false := by decide +kernel
theorem ki5 : kitB "bytes" "bytes" = some true := by decide +kernel
def spIsInteger : Sp := fun vs H Q _ => ∃ i : Int, vs = [.int i] ∧ Ret (.bl true) H Q
theorem sc_is_integer : FnScope ["thing"] ["thing"] (defScope (topS 13)) := ⟨rfl, rfl, rfl, by decide +kernel, rfl, by decide +kernel, by decide +kernel⟩
theorem ok_is_integer (g : GF K mg) (D : D0 K mg "is_integer" (topS 13))   : C8.Cal P w K mg base 1 "is_integer" (spIsInteger) [] := by
  refine calD D (fun _ _ _ _ _ _ us hl => match us, hl with | [_], _ => rfl) sc_is_integer (fun vs H Q E h => by obtain ⟨i, rfl, q⟩ := h; rfl) fun f cdv A outer s H vs Q E hr h => ?_
  have hu := hr.units
  have hu1 := hu_of hr
  obtain ⟨i, rfl, q⟩ := h
  refine ⟨_, pss_one (ps_ret (pe_and (pe_callB (cr_isiX (K := K)) rfl g.n_isinstance bo_isinstance (pa_cons (pv 0) (pa_cons (pe_bltn (v := .ty "int") rfl g.n_int bo_int rfl) (pa_nil)))) (pe_one (pe_not (pe_callB (cr_isiX (K := K)) rfl g.n_isinstance bo_isinstance (pa_cons (pv 0) (pa_cons (pe_bltn (v := .ty "bool") rfl g.n_bool bo_bool rfl) (pa_nil)))))))), ?_⟩
  exact s_ret (ev_andV (ev_cb (ea_cons (ev_var rfl) (ea_cons ev_c ea_nil)) (isi_int ki1)) (fun _ => ev_notV (ev_cb (ea_cons (ev_var rfl) (ea_cons ev_c ea_nil)) (isi_int ki2)))) q
def spIsWithin : Sp := fun vs H Q _ => ∃ i lo hi : Int, vs = [.int i, .int lo, .int hi] ∧ Ret (.bl (decide (lo ≤ i) && decide (i ≤ hi))) H Q
theorem sc_is_within : FnScope ["thing", "low", "high"] ["thing", "low", "high"] (defScope (topS 14)) := ⟨rfl, rfl, rfl, by decide +kernel, rfl, by decide +kernel, by decide +kernel⟩
theorem ok_is_within (g : GF K mg) (D : D0 K mg "is_within" (topS 14)) (c_is_integer : C8.Cal P w K mg base 1 "is_integer" (spIsInteger) [])  : C8.Cal P w K mg base 2 "is_within" (spIsWithin) [] := by
  refine calD D (fun _ _ _ _ _ _ us hl => match us, hl with | [_, _, _], _ => rfl) sc_is_within (fun vs H Q E h => by obtain ⟨i, lo, hi, rfl, q⟩ := h; rfl) fun f cdv A outer s H vs Q E hr h => ?_
  have hu := hr.units
  have hu1 := hu_of hr
  obtain ⟨i, lo, hi, rfl, q⟩ := h
  refine ⟨_, pss_one (ps_ret (pe_and (C8.pe_c c_is_integer hr (by decide) rfl (pa_cons (pv 0) (pa_nil))) (pe_one (pe_chain op_le op_le (pv 1) (pv 0) (pv 2))))), ?_⟩
  exact s_ret (ev_andV (ev_call (ea_cons (ev_var rfl) ea_nil) (Ret.sp fun H1 e Q E q => ⟨i, rfl, q⟩)) (fun _ => ev_chain (ev_var rfl) (ev_var rfl) rv_le fun _ => ⟨_, ev_var rfl, rv_le⟩)) q
def spIsName : Sp := fun vs H Q _ => ∃ t : Option (List Nat), vs = [oT t] ∧ (∀ x ∈ t, x.length ≤ 900000) ∧ Ret (.bl (isName t)) H Q
theorem map_bl {α : Type} (l : List α) (f : α → Bool) : l.map (fun c => V.bl (f c)) = (l.map f).map V.bl := by rw [List.map_map]; rfl
theorem all_map {α : Type} (l : List α) (f : α → Bool) : (l.map f).all id = l.all f := by rw [List.all_map]; rfl
/-- all([.. for c in text]) -/
theorem ev_allT {σ : L2.St} {H : Hp} {l : List Nat} {tz : TE} {j : Nat} {vs : List Nat} {te : TE} (f : Nat → Bool) (h : Ev tz σ H (.str (SX.S l))) (hz : l.length ≤ 900000) (hw : ∀ x, wipe ((wipe σ vs).set j (some x)) vs = wipe σ vs)
    (he : ∀ c H1, Ex H H1 → c ∈ l → Ev te ((wipe σ vs).set j (some (.str (SX.S [c])))) H1 (.bl (f c))) : Ev (tCB (rAll K) (tCons (tLc (iStr tz) (gName j) tYes te vs) tNil)) σ H (.bl (l.all f)) := by
  have g := el_lcT (fun c => V.bl (f c)) h hz hw he
  rw [map_bl] at g
  have k := ev_all (K := K) g
  rw [all_map] at k
  exact k
theorem ev_allY {σ : L2.St} {H : Hp} {l : List UInt8} {tz : TE} {j : Nat} {vs : List Nat} {te : TE} (f : UInt8 → Bool) (h : Ev tz σ H (.byt l.toArray)) (hz : l.length ≤ 900000) (hw : ∀ x, wipe ((wipe σ vs).set j (some x)) vs = wipe σ vs)
    (he : ∀ c H1, Ex H H1 → c ∈ l → Ev te ((wipe σ vs).set j (some (.int ((c.toNat : Nat) : Int)))) H1 (.bl (f c))) : Ev (tCB (rAll K) (tCons (tLc (iByt tz) (gName j) tYes te vs) tNil)) σ H (.bl (l.all f)) := by
  have g := el_lcY (fun c => V.bl (f c)) h hz hw he
  rw [map_bl] at g
  have k := ev_all (K := K) g
  rw [all_map] at k
  exact k
theorem sc_is_name : FnScope ["thing", "sign"] ["thing"] (defScope (topS 25)) := ⟨rfl, rfl, rfl, by decide +kernel, rfl, by decide +kernel, by decide +kernel⟩
theorem ok_is_name (g : GF K mg) (D : D0 K mg "is_name" (topS 25))   : C8.Cal P w K mg base 1 "is_name" (spIsName) [] := by
  refine calD D (fun _ _ _ _ _ _ us hl => match us, hl with | [_], _ => rfl) sc_is_name (fun vs H Q E h => by obtain ⟨t, rfl, hz, q⟩ := h; rfl) fun f cdv A outer s H vs Q E hr h => ?_
  have hu := hr.units
  have hu1 := hu_of hr
  obtain ⟨t, rfl, hz, q⟩ := h
  refine ⟨_, pss_cons (ps_if (PW.pt (pw_or (pt_not (pt_val (pe_callB (cr_isiX (K := K)) rfl g.n_isinstance bo_isinstance (pa_cons (pv 0) (pa_cons (pe_bltn (v := .ty "str") rfl g.n_str bo_str rfl) (pa_nil)))))) (pw_or1 (pt_not (pt_chain op_le op_le (pe_int) (pe_callB (cr_lenX (K := K)) rfl g.n_len bo_len (pa_cons (pv 0) (pa_nil))) (C8.pe_gc rfl g.c_MOST_NAME)))))) (pss_one (ps_ret (pe_bl))) (pss_nil))
      (pss_one (ps_ret (pe_callB (cr_allX (K := K) rfl) rfl g.n_all bo_all (pa_cons (pe_lc (own := [("sign", 1)]) (tt := tYes) rfl sc_is_name.nd (pi_str (pv 0)) (blkOk_by (N := ["thing", "sign"]) (sc := defScope (topS 25)) (by decide +kernel)) (fun _ _ _ _ _ => pg_name (i := 1) sc_is_name.nd rfl (Or.inl rfl)) (fun _ _ _ _ _ => pts_nil) (fun _ _ _ _ _ => pe_cmpR (op_inX (K := K)) (pv 1) (C8.pe_gc rfl g.c_LETTERS) (by with_unfolding_all rfl))) (pa_nil))))), ?_⟩
  cases t with
  | none =>
    refine s_if (D := ⟨_, _, _, _⟩) (et_or (b := false) (et_not (et_B (ev_cb (ea_cons (ev_var rfl) (ea_cons ev_c ea_nil)) (isi_non ki4)))) (fun h => by cases h)) (fun _ H1 e => s_ret ev_c fun H2 e2 => q H2 (e.trans e2)) (fun h => by cases h)
  | some t =>
    have hz := hz t rfl
    refine q_when (et_or (et_not (et_B (ev_cb (ea_cons (ev_var rfl) (ea_cons ev_c ea_nil)) (isi_str ki3)))) (fun _ => et_not (et_test (ev_chain ev_c (ev_cb1 (ev_var rfl) (rc_lenT (by omega))) rv_le fun _ => ⟨_, ev_c, rv_le⟩)))) (fun hb H1 e => s_ret ev_c fun H2 e2 => ?_) (fun hb H1 e => s_ret (ev_allT (fun c => decide (c ∈ kLET)) (ev_var rfl) hz (fun _ => rfl) fun c H2 _ _ => ev_is (ev_op (ev_var rfl) ev_c rv_inT) (congrArg V.bl (inT_one c kLET))) fun H2 e2 => ?_)
    · have q2 := q H2 (e.trans e2)
      have e3 : isName (some t) = false := by
        unfold isName nmT
        simp at hb ⊢
        omega
      rw [e3] at q2
      exact q2
    · have q2 := q H2 (e.trans e2)
      have e3 : isName (some t) = okT t := by
        unfold isName nmT
        simp at hb ⊢
        omega
      rw [e3] at q2
      exact q2
end
end Tar

/-! TaP2 -/
set_option Elab.async false
set_option linter.all false
set_option maxRecDepth 100000
set_option maxHeartbeats 4000000
/-! defs, 2: fields, headers, texts of fields -/
namespace Tar
open PySem PySem.Spec PyProof.Rows L2 Evl
section
variable {P : Program} {w : World} {K : PySem.W.Frag} {mg : Str → Option Value} {base : Heap}
def spIsShort : Sp := fun vs H Q _ => ∃ t : List Nat, vs = [.str (SX.S t)] ∧ t.length ≤ 16777216 ∧ Ret (.bl (decide (t.length ≤ 100))) H Q
theorem sc_is_short : FnScope ["name"] ["name"] (defScope (topS 26)) := ⟨rfl, rfl, rfl, by decide +kernel, rfl, by decide +kernel, by decide +kernel⟩
theorem ok_is_short (g : GF K mg) (D : D0 K mg "is_short" (topS 26))   : C8.Cal P w K mg base 1 "is_short" (spIsShort) [] := by
  refine calD D (fun _ _ _ _ _ _ us hl => match us, hl with | [_], _ => rfl) sc_is_short (fun vs H Q E h => by obtain ⟨t, rfl, hz, q⟩ := h; rfl) fun f cdv A outer s H vs Q E hr h => ?_
  have hu := hr.units
  have hu1 := hu_of hr
  obtain ⟨t, rfl, hz, q⟩ := h
  refine ⟨_, pss_one (ps_ret (pe_cmpR op_le (pe_callB (cr_lenX (K := K)) rfl g.n_len bo_len (pa_cons (pv 0) (pa_nil))) (C8.pe_gc rfl g.c_MOST_SHORT) (nomark _))), ?_⟩
  refine s_ret (ev_is (ev_op (ev_cb1 (ev_var rfl) (rc_lenT hz)) ev_c rv_le) (congrArg V.bl ?_)) q
  rw [decide_eq_decide]
  omega
def spLookData : Sp := fun vs H Q _ => ∃ l : List UInt8, vs = [.byt l.toArray] ∧ Ret .non H Q
theorem sc_look_data : FnScope ["data"] ["data"] (defScope (topS 16)) := ⟨rfl, rfl, rfl, by decide +kernel, rfl, by decide +kernel, by decide +kernel⟩
theorem ok_look_data (g : GF K mg) (D : D0 K mg "look_data" (topS 16))   : C8.Cal P w K mg base 1 "look_data" (spLookData) [] := by
  refine calD D (fun _ _ _ _ _ _ us hl => match us, hl with | [_], _ => rfl) sc_look_data (fun vs H Q E h => by obtain ⟨l, rfl, q⟩ := h; rfl) fun f cdv A outer s H vs Q E hr h => ?_
  have hu := hr.units
  have hu1 := hu_of hr
  obtain ⟨l, rfl, q⟩ := h
  refine ⟨_, pss_one (ps_if (pt_not (pt_val (pe_callB (cr_isiX (K := K)) rfl g.n_isinstance bo_isinstance (pa_cons (pv 0) (pa_cons (pe_bltn (v := .ty "bytes") rfl g.n_bytes bo_bytes rfl) (pa_nil)))))) (pss_never) (pss_nil)), ?_⟩
  exact s_when (et_not (et_B (ev_cb (ea_cons (ev_var rfl) (ea_cons ev_c ea_nil)) (isi_byt ki5)))) (fun h => by cases h) (fun _ H1 e => q H1 e)
def spLookName : Sp := fun vs H Q _ => ∃ t : List Nat, vs = [.str (SX.S t)] ∧ nmT t = true ∧ Ret .non H Q
theorem nmT_len {t : List Nat} (h : nmT t = true) : 1 ≤ t.length ∧ t.length ≤ 250 := by
  unfold nmT at h
  simp at h
  exact h.1
theorem sc_look_name : FnScope ["name"] ["name"] (defScope (topS 27)) := ⟨rfl, rfl, rfl, by decide +kernel, rfl, by decide +kernel, by decide +kernel⟩
theorem ok_look_name (g : GF K mg) (D : D0 K mg "look_name" (topS 27)) (c_is_name : C8.Cal P w K mg base 1 "is_name" (spIsName) [])  : C8.Cal P w K mg base 2 "look_name" (spLookName) [] := by
  refine calD D (fun _ _ _ _ _ _ us hl => match us, hl with | [_], _ => rfl) sc_look_name (fun vs H Q E h => by obtain ⟨t, rfl, hn, q⟩ := h; rfl) fun f cdv A outer s H vs Q E hr h => ?_
  have hu := hr.units
  have hu1 := hu_of hr
  obtain ⟨t, rfl, hn, q⟩ := h
  refine ⟨_, pss_one (ps_if (pt_not (pt_val (C8.pe_c c_is_name hr (by decide) rfl (pa_cons (pv 0) (pa_nil))))) (pss_never) (pss_nil)), ?_⟩
  have hl := nmT_len hn
  refine s_when (b := false) (et_is (et_not (et_B (ev_call (ea_cons (ev_var rfl) ea_nil) (Ret.sp fun H1 e Q E q => ⟨some t, rfl, fun x hx => by cases hx; omega, q⟩)))) ?_) (fun h => by cases h) (fun _ H1 e => q H1 e)
  show (!(nmT t)) = false
  rw [hn]
  rfl
def spLookStamps : Sp := fun vs H Q _ => ∃ m t : Nat, vs = [.int (m : Int), .int (t : Int)] ∧ m ≤ 4095 ∧ t ≤ 8589934591 ∧ Ret .non H Q
theorem sc_look_stamps : FnScope ["mode", "time"] ["mode", "time"] (defScope (topS 28)) := ⟨rfl, rfl, rfl, by decide +kernel, rfl, by decide +kernel, by decide +kernel⟩
theorem ok_look_stamps (g : GF K mg) (D : D0 K mg "look_stamps" (topS 28)) (c_is_within : C8.Cal P w K mg base 2 "is_within" (spIsWithin) [])  : C8.Cal P w K mg base 3 "look_stamps" (spLookStamps) [] := by
  refine calD D (fun _ _ _ _ _ _ us hl => match us, hl with | [_, _], _ => rfl) sc_look_stamps (fun vs H Q E h => by obtain ⟨m, t, rfl, hm, ht, q⟩ := h; rfl) fun f cdv A outer s H vs Q E hr h => ?_
  have hu := hr.units
  have hu1 := hu_of hr
  obtain ⟨m, t, rfl, hm, ht, q⟩ := h
  refine ⟨_, pss_cons (ps_if (pt_not (pt_val (C8.pe_c c_is_within hr (by decide) rfl (pa_cons (pv 0) (pa_cons (pe_int) (pa_cons (C8.pe_gc rfl g.c_MOST_MODE) (pa_nil))))))) (pss_never) (pss_nil))
      (pss_one (ps_if (pt_not (pt_val (C8.pe_c c_is_within hr (by decide) rfl (pa_cons (pv 1) (pa_cons (pe_int) (pa_cons (C8.pe_gc rfl g.c_MOST_TIME) (pa_nil))))))) (pss_never) (pss_nil))), ?_⟩
  refine q_when (b := false) (et_is (et_not (et_B (ev_call (ea_cons (ev_var rfl) (ea_cons ev_c (ea_cons ev_c ea_nil))) (Ret.sp fun H1 e Q E q => ⟨_, _, _, rfl, q⟩)))) ?_) (fun h => by cases h) (fun _ H1 e => ?_)
  · simp
    omega
  refine s_when (b := false) (et_is (et_not (et_B (ev_call (ea_cons (ev_var rfl) (ea_cons ev_c (ea_cons ev_c ea_nil))) (Ret.sp fun H1 e Q E q => ⟨_, _, _, rfl, q⟩)))) ?_) (fun h => by cases h) (fun _ H2 e2 => q H2 (e.trans e2))
  simp
  omega
theorem eo_n {σ : L2.St} {H : Hp} {te : TE} {n : Nat} (h : Ev te σ H (.int (n : Int))) : EvO (tPart te) σ H (some (n : Int)) := eo_some h
theorem sl_toT {t : List Nat} {n : Nat} : Txt.slice (SX.S t) none (some (n : Int)) = SX.S (t.take n) := by
  rw [SX.slice_to (by omega)]
  simp
theorem zs_len (n : Nat) : (zs n).length = n := by simp [zs]
def spTextField : Sp := fun vs H Q _ => ∃ (t : List Nat) (n : Nat), vs = [.str (SX.S t), .int (n : Int)] ∧ (∀ c ∈ t, c < 128) ∧ t.length ≤ 100000 ∧ n ≤ 100000 ∧ Ret (.byt (textField t n).toArray) H Q
theorem sc_text_field : FnScope ["text", "width"] ["text", "width"] (defScope (topS 46)) := ⟨rfl, rfl, rfl, by decide +kernel, rfl, by decide +kernel, by decide +kernel⟩
theorem ok_text_field (g : GF K mg) (D : D0 K mg "text_field" (topS 46))   : C8.Cal P w K mg base 1 "text_field" (spTextField) [] := by
  refine calD D (fun _ _ _ _ _ _ us hl => match us, hl with | [_, _], _ => rfl) sc_text_field (fun vs H Q E h => by obtain ⟨t, n, rfl, ha, hz, hn, q⟩ := h; rfl) fun f cdv A outer s H vs Q E hr h => ?_
  have hu := hr.units
  have hu1 := hu_of hr
  obtain ⟨t, n, rfl, ha, hz, hn, q⟩ := h
  refine ⟨_, pss_one (ps_ret (pe_slice (sl_X (K := K)) (pe_op op_addX (pe_bm0 PySem.F.plainAttrs_str PySem.F.slot_str_encode PySem.F.type_str_encode mt_encode (pe_slice (sl_X (K := K)) (pv 0) (po_none) (po_some (pv 1)))) (pe_callTy call_bytes_n rfl g.n_bytes bo_bytes (pa_cons (pv 1) (pa_nil)))) (po_none) (po_some (pv 1)))), ?_⟩
  have h1 : (t.take n).length ≤ 100000 := by rw [List.length_take]; omega
  refine s_ret (ev_slY (ev_op (ev_enc (ev_slT (ev_var rfl) eo_none (eo_n (ev_var rfl)) (by omega) sl_toT) (fun c hc => ha c (List.mem_of_mem_take hc)) (by omega)) (ev_cb1 (ev_var rfl) (rc_bytNn (by omega))) (rv_addY ?_)) eo_none (eo_n (ev_var rfl)) ?_ sl_to) q
  · rw [List.length_map, zs_len]
    omega
  · rw [List.length_append, List.length_map, zs_len]
    omega
theorem ev_fmtO {σ : L2.St} {H : Hp} {te : TE} {n : Nat} (h : Ev te σ H (.int (n : Int))) (hz : (octT n).length ≤ 1000) : Ev (tFmtO te) σ H (.str (SX.S (octT n))) := fun H1 e Q q => h H1 e _ fun H2 e2 => ⟨n, rfl, hz, q H2 e2⟩
def spOctalField : Sp := fun vs H Q _ => ∃ (n m : Nat), vs = [.int (n : Int), .int (m : Int)] ∧ 1 ≤ m ∧ m ≤ 100 ∧ (octT n).length ≤ 1000 ∧ Ret (.byt (octalField n m).toArray) H Q
theorem sc_octal_field : FnScope ["number", "width"] ["number", "width"] (defScope (topS 47)) := ⟨rfl, rfl, rfl, by decide +kernel, rfl, by decide +kernel, by decide +kernel⟩
theorem ok_octal_field (g : GF K mg) (D : D0 K mg "octal_field" (topS 47))   : C8.Cal P w K mg base 1 "octal_field" (spOctalField) [] := by
  refine calD D (fun _ _ _ _ _ _ us hl => match us, hl with | [_, _], _ => rfl) sc_octal_field (fun vs H Q E h => by obtain ⟨n, m, rfl, h1, hm, hz, q⟩ := h; rfl) fun f cdv A outer s H vs Q E hr h => ?_
  have hu := hr.units
  have hu1 := hu_of hr
  obtain ⟨n, m, rfl, h1, hm, hz, q⟩ := h
  refine ⟨_, pss_one (ps_ret (pe_op op_addX (pe_bm0 PySem.F.plainAttrs_str PySem.F.slot_str_encode PySem.F.type_str_encode mt_encode (pe_bm PySem.F.plainAttrs_str PySem.F.slot_str_zfill PySem.F.type_str_zfill mt_zf (pe_fmtO (pv 0)) (pa_cons (pe_op op_sub (pv 1) (pe_int)) (pa_nil)))) (pe_callTy call_bytes_n rfl g.n_bytes bo_bytes (pa_cons (pe_int) (pa_nil))))), ?_⟩
  have hz2 : (zfN (octT n) (m - 1)).length ≤ 1100 := by unfold zfN; rw [List.length_append, List.length_replicate]; omega
  refine s_ret (ev_op (ev_enc (ev_zf (ev_fmtO (ev_var rfl) hz) (ea_cons (ev_is (ev_op (ev_var rfl) ev_c rv_subI) (congrArg V.int (show (m : Int) - 1 = ((m - 1 : Nat) : Int) by omega))) ea_nil) (by omega) ?_) ?_ (by omega)) (ev_cb1 ev_c (rc_bytNn (n := 1) (by omega))) (rv_addY ?_)) q
  · intro c r e
    have := octT_digits n c (by rw [e]; exact List.mem_cons_self ..)
    omega
  · intro c hc
    unfold zfN at hc
    rcases List.mem_append.mp hc with h | h
    · rw [(List.mem_replicate.mp h).2]
      decide
    · have := octT_digits n c h
      omega
  · rw [List.length_map]
    show _ + (zs _).length ≤ _
    rw [zs_len]
    show _ + 1 ≤ _
    omega
end
end Tar

/-! TaK -/
set_option Elab.async false
set_option linter.all false
set_option maxRecDepth 100000
set_option maxHeartbeats 4000000
/-! calls with keywords: header, sparse -/
namespace Tar
open PySem PySem.Spec PyProof.Rows L2 Evl
structure D0K (K : PySem.W.Frag) (mg : Str → Option Value) (x : Str) (st : Stmt) (kws : List (Str × V)) : Prop where
  ex : ∃ f fd, FunD K x x (defArgs st) (defBody st) (defScope st) [] kws f fd ∧ mg x = some (.ref f)
/-- a def that may be called by its name with n values and the keywords ks -/
structure CalN (P : Program) (w : World) (K : PySem.W.Frag) (mg : Str → Option Value) (base : Heap) (k : Nat) (x : Str) (sp : Sp) (n : Nat) (ks : List Str) (gV : List V → List V → List V) : Prop where
  ex : ∃ (f : Addr) (fd : FuncData) (ps : List Str) (g : List Value → List Value → List Value), FnOk P w K mg base C8.CX0 k f fd ps sp ∧ mg x = some (.ref f) ∧ PySem.W.keepIn K (.ref f) = true ∧ KBn K fd ps n ks g gV
section
variable {X : Cx} {k j n : Nat} {x : Str} {sp : Sp} {p pos : Pos} {e : Expr} {es : List Expr} {kws : List Keyword} {t tk : TA} {ks : List Str} {gV : List V → List V → List V}
theorem pe_cN (c : CalN X.prog X.w X.K X.mg X.base k x sp n ks gV) (hr : Room j X.A) (hk : k ≤ j) (hg : Gl X x) (ha : PA X (e :: es) t) (hkw : PK X kws tk)
    (hall : (backToKw pos (keywordEach kws X.env)).all (·.1.isSome) = true := by rfl) (hks : (backToKw pos (keywordEach kws X.env)).filterMap (·.1) = ks := by rfl)
    (hdb : (x == ("__debug__" : Str)) = false := by decide) (he : starEach (e :: es) X.env = (false, eval e X.env) :: starEach es X.env := by rfl)
    (hpl : ((backTo pos (starEach (e :: es) X.env)).any (·.1) || (backToKw pos (keywordEach kws X.env)).any (·.1.isNone)) = false := by rfl) :
    PE X (.Call (.Name x p) (e :: es) kws pos) (tCallN n ks.length sp gV C8.E0 t tk) := by
  obtain ⟨f, fd, ps, g, F, m, kp, b⟩ := c.ex
  exact pe_callN F (hr.mono hk) hg m kp b C8.pass0 ha hkw hall hks hdb he hpl
end
section
variable {P : Program} {w : World} {K : PySem.W.Frag} {mg : Str → Option Value} {base : Heap}
/-- by its body; the two ways it is called -/
theorem calK {x : Str} {st : Stmt} {N ps : List Str} {k : Nat} {sp : Sp} {kws : List (Str × V)} (D : D0K K mg x st kws) (hk : kws ≠ []) (S : FnScope N ps (defScope st)) (len : ∀ vs H Q E, sp vs H Q E → vs.length = ps.length)
    (hbody : ∀ (f : Addr) (cdv : Value) (A : Around) (outer : List Env) (s : Shared) (H : Hp) (vs : List V) (Q : VK) (E : XK), Room k (A.deeper (envOfC x (defScope st) s.heap.objs.size f cdv)) → sp vs H Q E →
      ∃ t, PSs (cxOf C8.CX0 P w K mg base N x (defScope st) f cdv A outer s H E).nox (defBody st) t ∧ t { nx := fun _ H' => Q .non H', rt := Q } (start N vs) H)
    (n : Nat) (ks : List Str) (ms : List (Str × V)) (g : {α : Type} → List α → List α → List α → List α) (hms : ∀ q ∈ ms, q ∈ kws)
    (hrel : ∀ {vs mz zs : List V} {us mv ws : List Value}, Vals vs us → Vals mz mv → Vals zs ws → Vals (g vs mz zs) (g us mv ws))
    (h : ∀ (D : Addr) (doc pm : Value) (an : Option Addr) (cdv ct : Value) (us mv ws : List Value), us.length = n → mv.length = ms.length → ws.length = ks.length →
      KwChain D ((ms.map (·.1)).zip mv) (bindArgs (PySem.W.fnOf x x (defArgs st) (defBody st) (defScope st) .none (.ref D) doc pm an cdv ct) ⟨us, ks.zip ws⟩) (ps.zip (g us mv ws))) :
    CalN P w K mg base (k + 1) x sp n ks (fun vs zs => g vs (ms.map (·.2)) zs) := by
  obtain ⟨f, fd, F, m⟩ := D.ex
  obtain ⟨mv, b⟩ := F.kbinds0 n ks ms g hk hms hrel h
  refine ⟨f, fd, ps, _, F.ok S len fun cdv A outer s H vs Q E hr hs => ?_, m, F.kp, b⟩
  obtain ⟨t, ht, q⟩ := hbody f cdv A outer s H vs Q E hr hs
  exact ⟨t, ht.nox, q⟩
/-- the same, called with positional values alone -/
theorem calK0 {x : Str} {st : Stmt} {N ps : List Str} {k : Nat} {sp : Sp} {kws : List (Str × V)} (D : D0K K mg x st kws) (hk : kws ≠ []) (S : FnScope N ps (defScope st)) (len : ∀ vs H Q E, sp vs H Q E → vs.length = ps.length)
    (hbody : ∀ (f : Addr) (cdv : Value) (A : Around) (outer : List Env) (s : Shared) (H : Hp) (vs : List V) (Q : VK) (E : XK), Room k (A.deeper (envOfC x (defScope st) s.heap.objs.size f cdv)) → sp vs H Q E →
      ∃ t, PSs (cxOf C8.CX0 P w K mg base N x (defScope st) f cdv A outer s H E).nox (defBody st) t ∧ t { nx := fun _ H' => Q .non H', rt := Q } (start N vs) H)
    (n : Nat) (hn : n + kws.length = ps.length)
    (h : ∀ (D : Addr) (doc pm : Value) (an : Option Addr) (cdv ct : Value) (us ks : List Value), us.length = n → ks.length = kws.length →
      KwChain D ((kws.map (·.1)).zip ks) (bindArgs (PySem.W.fnOf x x (defArgs st) (defBody st) (defScope st) .none (.ref D) doc pm an cdv ct) ⟨us, []⟩) (ps.zip (us ++ ks))) :
    C8.Cal P w K mg base (k + 1) x sp (kws.map (·.2)) := by
  obtain ⟨f, fd, F, m⟩ := D.ex
  obtain ⟨ds, r, b⟩ := F.binds0 n hk hn h
  refine ⟨f, fd, ps, ds, F.ok S len fun cdv A outer s H vs Q E hr hs => ?_, m, F.kp, b, r⟩
  obtain ⟨t, ht, q⟩ := hbody f cdv A outer s H vs Q E hr hs
  exact ⟨t, ht.nox, q⟩
end
/-! ### readings -/
section
variable {σ : L2.St} {H : Hp} {z : V}
theorem ev_cN {n m : Nat} {sp : Sp} {gV : List V → List V → List V} {E : XK} {t tk : TA} {vs zs : List V} (h : EvA t σ H vs) (hk : EvA tk σ H zs) (l1 : vs.length = n) (l2 : zs.length = m) (hs : SpV sp (gV vs zs) H z) : Ev (tCallN n m sp gV E t tk) σ H z := fun H1 e Q q =>
  h H1 e _ fun H2 e2 => hk H2 (e.trans e2) _ fun H3 e3 => ⟨l1, l2, hs H3 ((e.trans e2).trans e3) Q (fun H4 e4 => q H4 ((e2.trans e3).trans e4)) E⟩
end
end Tar

/-! TaP3 -/
set_option Elab.async false
set_option linter.all false
set_option maxRecDepth 100000
set_option maxHeartbeats 4000000
/-! defs, 3: sums, headers, texts of fields -/
namespace Tar
open PySem PySem.Spec PyProof.Rows L2 Evl
section
variable {P : Program} {w : World} {K : PySem.W.Frag} {mg : Str → Option Value} {base : Heap}
theorem sumB_app (a b : List UInt8) : sumB (a ++ b) = sumB a + sumB b := by simp [sumB]
theorem sumB_sub (l : List UInt8) (i j : Nat) : sumB (sub l i j) ≤ sumB l := by
  have e : l = l.take i ++ ((l.drop i).take (j - i) ++ (l.drop i).drop (j - i)) := by rw [List.take_append_drop, List.take_append_drop]
  have h : sumB l = sumB (l.take i) + (sumB (sub l i j) + sumB ((l.drop i).drop (j - i))) := by
    rw [← sumB_app, ← sumB_app]
    exact congrArg sumB e
  omega
theorem sumB_le (l : List UInt8) : sumB l ≤ 255 * l.length := by
  induction l with
  | nil => simp [sumB]
  | cons c l ih =>
    have h1 : sumB (c :: l) = c.toNat + sumB l := by simp [sumB]
    have h2 := c.toNat_lt
    rw [h1, List.length_cons]
    omega
theorem sub_len (l : List UInt8) (i j : Nat) : (sub l i j).length = min (j - i) (l.length - i) := by simp [sub]
theorem rc_ord {σ : L2.St} {H : Hp} {c : Nat} : RC rOrd [.str (SX.S [c])] H (.int (c : Int)) := fun H1 _ _ q => ⟨_, rfl, rfl, q H1 (Ex.refl H1)⟩
def spSumOf : Sp := fun vs H Q _ => ∃ l : List UInt8, vs = [.byt l.toArray] ∧ l.length ≤ 100000 ∧ Ret (.int ((sumOf l : Nat) : Int)) H Q
theorem sc_sum_of : FnScope ["block"] ["block"] (defScope (topS 48)) := ⟨rfl, rfl, rfl, by decide +kernel, rfl, by decide +kernel, by decide +kernel⟩
theorem ok_sum_of (g : GF K mg) (D : D0 K mg "sum_of" (topS 48))   : C8.Cal P w K mg base 1 "sum_of" (spSumOf) [] := by
  refine calD D (fun _ _ _ _ _ _ us hl => match us, hl with | [_], _ => rfl) sc_sum_of (fun vs H Q E h => by obtain ⟨l, rfl, hz, q⟩ := h; rfl) fun f cdv A outer s H vs Q E hr h => ?_
  have hu := hr.units
  have hu1 := hu_of hr
  obtain ⟨l, rfl, hz, q⟩ := h
  refine ⟨_, pss_one (ps_ret (pe_op op_addX (pe_op op_sub (pe_callB (cr_sumX (K := K) rfl) rfl g.n_sum bo_sum (pa_cons (pv 0) (pa_nil))) (pe_callB (cr_sumX (K := K) rfl) rfl g.n_sum bo_sum (pa_cons (pe_slice (sl_X (K := K)) (pv 0) (po_some (pe_int)) (po_some (pe_int))) (pa_nil)))) (pe_op op_mulX (pe_int) (pe_callB cr_ord rfl g.n_ord bo_ord (pa_cons (pe_str) (pa_nil)))))), ?_⟩
  refine s_ret (ev_is (ev_op (ev_op (ev_cb1 (ev_var rfl) rc_sumY) (ev_cb1 (ev_slY (ev_var rfl) (eo_n (n := 148) ev_c) (eo_n (n := 156) ev_c) (by omega) sl_gen) rc_sumY) rv_subI) (ev_op ev_c (ev_cb1 (ev_lit (l := [32]) rfl) (rc_ord (σ := []))) (rv_mulI ?_)) rv_addI) (congrArg V.int ?_)) q
  · exact wide_mul (i := 8) (j := 32) (a := 10) (b := 10) (by decide) (by decide) (by decide) (by decide) (by decide)
  · have h := sumB_sub l 148 156
    show (sumB l : Int) - (sumB (sub l 148 156) : Int) + 8 * 32 = ((sumB l - sumB (sub l 148 156) + 256 : Nat) : Int)
    omega
def spChecksumField : Sp := fun vs H Q _ => ∃ l : List UInt8, vs = [.byt l.toArray] ∧ l.length ≤ 10000 ∧ Ret (.byt (checksumField l).toArray) H Q
theorem octT_room {n : Nat} (h : n ≤ 8589934592) : (octT n).length ≤ 1000 := Nat.le_trans (octT_len 11 n (Nat.lt_of_le_of_lt h (by decide))) (by decide)
theorem octalField_len {n m : Nat} (h : (octT n).length ≤ 1000) (hm : m ≤ 100) : (octalField n m).length ≤ 2000 := by
  unfold octalField toB zfN
  rw [List.length_append, List.length_map, List.length_append, List.length_replicate, zs_len]
  omega
theorem sumOf_le (l : List UInt8) : sumOf l ≤ 255 * l.length + 256 := by
  have := sumB_le l
  unfold sumOf
  omega
theorem sc_checksum_field : FnScope ["block"] ["block"] (defScope (topS 49)) := ⟨rfl, rfl, rfl, by decide +kernel, rfl, by decide +kernel, by decide +kernel⟩
theorem ok_checksum_field (g : GF K mg) (D : D0 K mg "checksum_field" (topS 49)) (c_octal_field : C8.Cal P w K mg base 1 "octal_field" (spOctalField) []) (c_sum_of : C8.Cal P w K mg base 1 "sum_of" (spSumOf) [])  : C8.Cal P w K mg base 2 "checksum_field" (spChecksumField) [] := by
  refine calD D (fun _ _ _ _ _ _ us hl => match us, hl with | [_], _ => rfl) sc_checksum_field (fun vs H Q E h => by obtain ⟨l, rfl, hz, q⟩ := h; rfl) fun f cdv A outer s H vs Q E hr h => ?_
  have hu := hr.units
  have hu1 := hu_of hr
  obtain ⟨l, rfl, hz, q⟩ := h
  refine ⟨_, pss_one (ps_ret (pe_op op_addX (C8.pe_c c_octal_field hr (by decide) rfl (pa_cons (C8.pe_c c_sum_of hr (by decide) rfl (pa_cons (pv 0) (pa_nil))) (pa_cons (pe_int) (pa_nil)))) (pe_byt))), ?_⟩
  have h1 : (octT (sumOf l)).length ≤ 1000 := octT_room (by have := sumOf_le l; omega)
  have h2 := octalField_len (m := 7) h1 (by decide)
  exact s_ret (ev_op (ev_call (ea_cons (ev_call (ea_cons (ev_var rfl) ea_nil) (Ret.sp fun H1 e Q E q => ⟨l, rfl, by omega, q⟩)) (ea_cons ev_c ea_nil)) (Ret.sp fun H1 e Q E q => ⟨sumOf l, 7, rfl, by decide, by decide, h1, q⟩)) (ev_byt (l := [32])) (rv_addY (by simp; omega))) q
def spMagicField : Sp := fun vs H Q _ => vs = [] ∧ Ret (.byt magicField.toArray) H Q
theorem sc_magic_field : FnScope [] [] (defScope (topS 50)) := ⟨rfl, rfl, rfl, by decide +kernel, rfl, by decide +kernel, by decide +kernel⟩
theorem ok_magic_field (g : GF K mg) (D : D0 K mg "magic_field" (topS 50))   : C8.Cal P w K mg base 1 "magic_field" (spMagicField) [] := by
  refine calD D (fun _ _ _ _ _ _ us hl => match us, hl with | [], _ => rfl) sc_magic_field (fun vs H Q E h => by obtain ⟨rfl, q⟩ := h; rfl) fun f cdv A outer s H vs Q E hr h => ?_
  have hu := hr.units
  have hu1 := hu_of hr
  obtain ⟨rfl, q⟩ := h
  refine ⟨_, pss_one (ps_ret (pe_op op_addX (pe_op op_addX (pe_bm0 PySem.F.plainAttrs_str PySem.F.slot_str_encode PySem.F.type_str_encode mt_encode (C8.pe_gc rfl g.c_MAGIC)) (pe_callTy call_bytes_n rfl g.n_bytes bo_bytes (pa_cons (pe_int) (pa_nil)))) (pe_byt))), ?_⟩
  exact s_ret (ev_op (ev_op (ev_enc ev_c (by decide) (by decide)) (ev_cb1 ev_c (rc_bytNn (n := 1) (by omega))) (rv_addY (by decide))) (ev_byt (l := [48, 48])) (rv_addY (by decide))) q
end
end Tar

/-! TaP4 -/
set_option Elab.async false
set_option linter.all false
set_option maxRecDepth 100000
set_option maxHeartbeats 4000000
/-! defs, 4: texts of fields, numbers, padding -/
namespace Tar
open PySem PySem.Spec PyProof.Rows L2 Evl
section
variable {P : Program} {w : World} {K : PySem.W.Frag} {mg : Str → Option Value} {base : Heap}
def spTextOf : Sp := fun vs H Q _ => ∃ l : List UInt8, vs = [.byt l.toArray] ∧ l.length ≤ 900000 ∧ Ret (oT (textOf l)) H Q
theorem dec_and {a b : Prop} [Decidable a] [Decidable b] : (decide a && decide b) = decide (a ∧ b) := by simp
theorem sc_text_of : FnScope ["field", "end", "text", "byte"] ["field"] (defScope (topS 52)) := ⟨rfl, rfl, rfl, by decide +kernel, rfl, by decide +kernel, by decide +kernel⟩
theorem ok_text_of (g : GF K mg) (D : D0 K mg "text_of" (topS 52))   : C8.Cal P w K mg base 1 "text_of" (spTextOf) [] := by
  refine calD D (fun _ _ _ _ _ _ us hl => match us, hl with | [_], _ => rfl) sc_text_of (fun vs H Q E h => by obtain ⟨l, rfl, hz, q⟩ := h; rfl) fun f cdv A outer s H vs Q E hr h => ?_
  have hu := hr.units
  have hu1 := hu_of hr
  obtain ⟨l, rfl, hz, q⟩ := h
  refine ⟨_, pss_cons (ps_set (i := 1) sc_text_of.nd rfl (Or.inl rfl) (pe_mG ty_byt PySem.W.FB.plainAttrs_bytes slB_find tpB_find mt_bfind (pv 0) (pa_cons (pe_callTy call_bytes_n rfl g.n_bytes bo_bytes (pa_cons (pe_int) (pa_nil))) (pa_nil))))
      (pss_cons (ps_set (i := 2) sc_text_of.nd rfl (Or.inl rfl) (pe_ifExp (pt_cmpR op_lt (pv 1) (pe_int) (nomark _)) (pv 0) (pe_slice (sl_X (K := K)) (pv 0) (po_none) (po_some (pv 1)))))
      (pss_cons (ps_if (PW.pt (pw_or (pt_cmpR (op_neX (K := K) hu) (pe_op op_addX (pv 2) (pe_callTy call_bytes_n rfl g.n_bytes bo_bytes (pa_cons (pe_op op_sub (pe_callB (cr_lenX (K := K)) rfl g.n_len bo_len (pa_cons (pv 0) (pa_nil))) (pe_callB (cr_lenX (K := K)) rfl g.n_len bo_len (pa_cons (pv 2) (pa_nil)))) (pa_nil)))) (pv 0) (nomark _)) (pw_or1 (pt_not (pt_val (pe_callB (cr_allX (K := K) rfl) rfl g.n_all bo_all (pa_cons (pe_lc (own := [("byte", 3)]) (tt := tYes) rfl sc_text_of.nd (pi_byt (pv 2)) (blkOk_by (N := ["field", "end", "text", "byte"]) (sc := defScope (topS 52)) (by decide +kernel)) (fun _ _ _ _ _ => pg_name (i := 3) sc_text_of.nd rfl (Or.inl rfl)) (fun _ _ _ _ _ => pts_nil) (fun _ _ _ _ _ => pe_chain op_le op_lt (pe_int) (pv 3) (pe_int))) (pa_nil)))))))) (pss_one (ps_ret (pe_non))) (pss_nil))
      (pss_one (ps_ret (pe_mG ty_byt PySem.W.FB.plainAttrs_bytes slB_decode tpB_decode mt_decode (pv 2) (pa_cons (pe_str) (pa_nil))))))), ?_⟩
  obtain ⟨hn, hy⟩ := told_zero l
  have hc := cutZ_len l
  refine q_asg (ev_find (ev_var rfl) (ea_cons (ev_cb1 ev_c (rc_bytNn (n := 1) (by omega))) ea_nil)) fun H1 e1 => ?_
  generalize PySem.W.KBf.told (PySem.W.KBf.first? (PySem.W.KBw.bInts l.toArray) (PySem.W.KBw.bInts (zs 1).toArray)) = d at hn hy
  have hsl : ∀ H2, Ex H1 H2 → ¬ d < 0 → Ev (tSl (rSlX K) (tVar 0) tNoPart (tPart (tVar 1))) ((L2.start ["field", "end", "text", "byte"] [V.byt l.toArray]).set 1 (some (V.int d))) H2 (.byt (cutZ l).toArray) := fun H2 e2 hd => by
    obtain ⟨k, ek, e3⟩ := hy hd
    refine ev_slY (ev_var rfl) eo_none (eo_some (ev_var rfl)) (by omega) ?_
    rw [ek, ← e3]
    exact sl_to
  refine q_asg (v := .byt (cutZ l).toArray) (ev_if (et_test (ev_op (ev_var rfl) ev_c rv_lt)) (fun hb => ev_is (ev_var rfl) (by rw [hn (of_decide_eq_true hb)])) (fun hb => hsl H1 (Ex.refl _) (of_decide_eq_false hb))) fun H2 e2 => ?_
  have e12 := e1.trans e2
  refine q_when (et_or (et_test (ev_op (ev_op (ev_var rfl) (ev_cb1 (ev_is (ev_op (ev_cb1 (ev_var rfl) (rc_lenY (by omega))) (ev_cb1 (ev_var rfl) (rc_lenY (by omega))) rv_subI) (congrArg V.int (show ((l.length : Int) - ((cutZ l).length : Int)) = ((l.length - (cutZ l).length : Nat) : Int) by omega))) (rc_bytNn (by omega))) (rv_addY ?_)) (ev_var rfl) rv_neY))
    (fun _ => et_not (et_B (ev_allY (fun c => decide (32 ≤ c.toNat) && decide (c.toNat < 127)) (ev_var rfl) (by omega) (fun _ => rfl) fun c H3 _ _ => ev_is (ev_chain ev_c (ev_var rfl) rv_le fun _ => ⟨_, ev_c, rv_lt⟩) ?_)))) (fun hb H3 e3 => s_ret ev_c fun H4 e4 => ?_) (fun hb H3 e3 => ?_)
  · rw [zs_len]
    omega
  · congr 1
    rw [Bool.eq_iff_iff]
    simp
    omega
  · have q2 := q H4 ((e12.trans e3).trans e4)
    have e5 : textOf l = none := by
      unfold textOf plainB
      rw [if_neg]
      intro h
      rw [h.1, h.2] at hb
      simp at hb
    rw [e5] at q2
    exact q2
  · have hp : cutZ l ++ zs (l.length - (cutZ l).length) = l ∧ plainB (cutZ l) = true := by
      unfold plainB
      revert hb
      cases (cutZ l).all fun c => decide (32 ≤ c.toNat) && decide (c.toNat < 127) <;> simp
    have e5 : textOf l = some (toT (cutZ l)) := by
      unfold textOf
      rw [if_pos hp]
    rw [e5] at q
    refine s_ret (ev_dec (ev_var rfl) (ea_cons ev_c ea_nil) (fun c hc => ?_) (by omega)) fun H4 e4 => q H4 ((e12.trans e3).trans e4)
    have h2 := hp.2
    unfold plainB at h2
    have h3 := List.all_eq_true.mp h2 c hc
    simp at h3
    omega
theorem textOf_len {l : List UInt8} {t : List Nat} (h : textOf l = some t) : t.length ≤ l.length := by
  unfold textOf at h
  split at h
  · have e := Option.some.inj h
    rw [← e]
    unfold toT
    rw [List.length_map]
    exact cutZ_len l
  · cases h
def spNumberOf : Sp := fun vs H Q _ => ∃ l : List UInt8, vs = [.byt l.toArray] ∧ 2 ≤ l.length ∧ l.length ≤ 500 ∧ Ret (oI (numberOf l)) H Q
def kOCT : List Nat := [48, 49, 50, 51, 52, 53, 54, 55]
theorem in_oct (c : Nat) : inT [c] kOCT = (decide (48 ≤ c) && decide (c ≤ 55)) := by
  rw [inT_one, Bool.eq_iff_iff]
  simp [kOCT]
  omega
theorem numberOf_none {l : List UInt8} (h : textOf l = none) : numberOf l = none := by
  unfold numberOf
  rw [h]
theorem numberOf_some {l : List UInt8} {t : List Nat} (h : textOf l = some t) : numberOf l = if t.length + 1 = l.length ∧ octB t = true then some (Oc.octNum t) else none := by
  unfold numberOf
  rw [h]
theorem sc_number_of : FnScope ["field", "digits", "sign"] ["field"] (defScope (topS 53)) := ⟨rfl, rfl, rfl, by decide +kernel, rfl, by decide +kernel, by decide +kernel⟩
theorem ok_number_of (g : GF K mg) (D : D0 K mg "number_of" (topS 53)) (c_text_of : C8.Cal P w K mg base 1 "text_of" (spTextOf) [])  : C8.Cal P w K mg base 2 "number_of" (spNumberOf) [] := by
  refine calD D (fun _ _ _ _ _ _ us hl => match us, hl with | [_], _ => rfl) sc_number_of (fun vs H Q E h => by obtain ⟨l, rfl, h2, hz, q⟩ := h; rfl) fun f cdv A outer s H vs Q E hr h => ?_
  have hu := hr.units
  have hu1 := hu_of hr
  obtain ⟨l, rfl, h2, hz, q⟩ := h
  refine ⟨_, pss_cons (ps_set (i := 1) sc_number_of.nd rfl (Or.inl rfl) (C8.pe_c c_text_of hr (by decide) rfl (pa_cons (pv 0) (pa_nil))))
      (pss_cons (ps_if (PW.pt (pw_or (pt_cmpR op_isN1 (pv 1) (pe_non) (nomark _)) (pw_or (pt_cmpR (op_neX (K := K) hu) (pe_callB (cr_lenX (K := K)) rfl g.n_len bo_len (pa_cons (pv 1) (pa_nil))) (pe_op op_sub (pe_callB (cr_lenX (K := K)) rfl g.n_len bo_len (pa_cons (pv 0) (pa_nil))) (pe_int)) (nomark _)) (pw_or1 (pt_not (pt_val (pe_callB (cr_allX (K := K) rfl) rfl g.n_all bo_all (pa_cons (pe_lc (own := [("sign", 2)]) (tt := tYes) rfl sc_number_of.nd (pi_str (pv 1)) (blkOk_by (N := ["field", "digits", "sign"]) (sc := defScope (topS 53)) (by decide +kernel)) (fun _ _ _ _ _ => pg_name (i := 2) sc_number_of.nd rfl (Or.inl rfl)) (fun _ _ _ _ _ => pts_nil) (fun _ _ _ _ _ => pe_cmpR (op_inX (K := K)) (pv 2) (pe_str) (by with_unfolding_all rfl))) (pa_nil))))))))) (pss_one (ps_ret (pe_non))) (pss_nil))
      (pss_one (ps_ret (pe_callTy cr_intX rfl g.n_int bo_int (pa_cons (pv 1) (pa_cons (pe_int) (pa_nil))))))), ?_⟩
  refine q_asg (ev_call (ea_cons (ev_var rfl) ea_nil) (Ret.sp fun H1 e Q E q => ⟨l, rfl, by omega, q⟩)) fun H1 e1 => ?_
  cases ht : textOf l with
  | none =>
    rw [numberOf_none ht] at q
    exact q_when (b := true) (et_or (a := true) (b := false) (et_is (et_test (ev_op (ev_var rfl) ev_c rv_isN)) (decide_eq_true rfl)) (fun h => by cases h)) (fun _ H2 e2 => s_ret ev_c fun H3 e3 => q H3 ((e1.trans e2).trans e3)) (fun h => by cases h)
  | some t =>
    rw [numberOf_some ht] at q
    have hl := textOf_len ht
    refine q_when (et_or (et_test (ev_op (ev_var rfl) ev_c rv_isN)) fun _ => et_or (et_test (ev_op (ev_cb1 (ev_var rfl) (rc_lenT (by omega))) (ev_op (ev_cb1 (ev_var rfl) (rc_lenY (by omega))) ev_c rv_subI) rv_neI)) fun _ => et_not (et_B (ev_allT (fun c => decide (48 ≤ c) && decide (c ≤ 55)) (ev_var rfl) (by omega) (fun _ => rfl) fun c H3 _ _ => ev_is (ev_op (ev_var rfl) (ev_lit (l := kOCT) rfl) rv_inT) (congrArg V.bl (in_oct c))))) (fun hb H3 e3 => s_ret ev_c fun H4 e4 => ?_) (fun hb H3 e3 => ?_)
    · have q2 := q H4 ((e1.trans e3).trans e4)
      rw [if_neg] at q2
      · exact q2
      · intro h
        unfold octB at h
        rw [h.2] at hb
        simp [oT] at hb
        omega
    · have hp : t.length + 1 = l.length ∧ octB t = true := by
        unfold octB
        revert hb
        cases t.all fun c => decide (48 ≤ c) && decide (c ≤ 55) <;> simp [oT]
        omega
      rw [if_pos hp] at q
      refine s_ret (ev_cb (ea_cons (ev_var rfl) (ea_cons ev_c ea_nil)) (rc_intO ?_ (by omega) fun c hc => ?_)) fun H4 e4 => q H4 ((e1.trans e3).trans e4)
      · intro e
        rw [e] at hp
        simp at hp
        omega
      · have h3 := List.all_eq_true.mp hp.2 c hc
        simp at h3
        exact h3
def spKindOf : Sp := fun vs H Q _ => ∃ l : List UInt8, vs = [.byt l.toArray] ∧ l.length ≤ 40000 ∧ Ret (.str (SX.S (kindOf l))) H Q
theorem ev_orT {σ : L2.St} {H : Hp} {ta tb : TE} {t : Option (List Nat)} (h : Ev ta σ H (oT t)) (hz : ∀ x ∈ t, x.length ≤ 100000) (h2 : Ev tb σ H (.str (SX.S []))) : Ev (tOrT K ta tb) σ H (.str (SX.S (t.getD []))) := fun H1 e Q q =>
  h H1 e _ fun H2 e2 => by
    cases t with
    | none => exact ⟨false, rfl, h2 H2 (e.trans e2) Q fun H3 e3 => q H3 (e2.trans e3)⟩
    | some t =>
      cases t with
      | nil => exact ⟨false, ⟨by rw [sizeLine_eq]; decide, rfl⟩, h2 H2 (e.trans e2) Q fun H3 e3 => q H3 (e2.trans e3)⟩
      | cons c r => exact ⟨true, ⟨by rw [sizeLine_eq, SX.S_len]; exact Nat.le_trans (hz _ rfl) (by decide), by rw [SX.S_len]; rfl⟩, q H2 e2⟩
theorem sc_kind_of : FnScope ["block"] ["block"] (defScope (topS 55)) := ⟨rfl, rfl, rfl, by decide +kernel, rfl, by decide +kernel, by decide +kernel⟩
theorem ok_kind_of (g : GF K mg) (D : D0 K mg "kind_of" (topS 55)) (c_text_of : C8.Cal P w K mg base 1 "text_of" (spTextOf) [])  : C8.Cal P w K mg base 2 "kind_of" (spKindOf) [] := by
  refine calD D (fun _ _ _ _ _ _ us hl => match us, hl with | [_], _ => rfl) sc_kind_of (fun vs H Q E h => by obtain ⟨l, rfl, hz, q⟩ := h; rfl) fun f cdv A outer s H vs Q E hr h => ?_
  have hu := hr.units
  have hu1 := hu_of hr
  obtain ⟨l, rfl, hz, q⟩ := h
  refine ⟨_, pss_one (ps_ret (pe_orT (C8.pe_c c_text_of hr (by decide) rfl (pa_cons (pe_slice (sl_X (K := K)) (pv 0) (po_some (pe_int)) (po_some (pe_int))) (pa_nil))) (pe_one (pe_str)))), ?_⟩
  have h1 : (sub l 156 157).length ≤ 1 := by rw [sub_len]; omega
  refine s_ret (ev_orT (t := textOf (sub l 156 157)) (ev_call (ea_cons (ev_slY (ev_var rfl) (eo_n (n := 156) ev_c) (eo_n (n := 157) ev_c) (by omega) sl_gen) ea_nil) (Ret.sp fun H1 e Q E q => ⟨_, rfl, by simp; omega, q⟩)) (fun x hx => by have := textOf_len hx; omega) (ev_lit rfl)) q
def spNameOf : Sp := fun vs H Q _ => ∃ l : List UInt8, vs = [.byt l.toArray] ∧ l.length ≤ 40000 ∧ Ret (oT (nameOf l)) H Q
theorem sc_name_of : FnScope ["block"] ["block"] (defScope (topS 56)) := ⟨rfl, rfl, rfl, by decide +kernel, rfl, by decide +kernel, by decide +kernel⟩
theorem ok_name_of (g : GF K mg) (D : D0 K mg "name_of" (topS 56)) (c_text_of : C8.Cal P w K mg base 1 "text_of" (spTextOf) [])  : C8.Cal P w K mg base 2 "name_of" (spNameOf) [] := by
  refine calD D (fun _ _ _ _ _ _ us hl => match us, hl with | [_], _ => rfl) sc_name_of (fun vs H Q E h => by obtain ⟨l, rfl, hz, q⟩ := h; rfl) fun f cdv A outer s H vs Q E hr h => ?_
  have hu := hr.units
  have hu1 := hu_of hr
  obtain ⟨l, rfl, hz, q⟩ := h
  refine ⟨_, pss_one (ps_ret (C8.pe_c c_text_of hr (by decide) rfl (pa_cons (pe_slice (sl_X (K := K)) (pv 0) (po_some (pe_int)) (po_some (pe_int))) (pa_nil)))), ?_⟩
  exact s_ret (ev_call (ea_cons (ev_slY (m := l.take 100) (ev_var rfl) (eo_n (n := 0) ev_c) (eo_n (n := 100) ev_c) (by omega) sl_gen) ea_nil) (Ret.sp fun H1 e Q E q => ⟨_, rfl, by simp; omega, q⟩)) q
def spTargetOf : Sp := fun vs H Q _ => ∃ l : List UInt8, vs = [.byt l.toArray] ∧ l.length ≤ 40000 ∧ Ret (oT (targetOf l)) H Q
theorem sc_target_of : FnScope ["block"] ["block"] (defScope (topS 57)) := ⟨rfl, rfl, rfl, by decide +kernel, rfl, by decide +kernel, by decide +kernel⟩
theorem ok_target_of (g : GF K mg) (D : D0 K mg "target_of" (topS 57)) (c_text_of : C8.Cal P w K mg base 1 "text_of" (spTextOf) [])  : C8.Cal P w K mg base 2 "target_of" (spTargetOf) [] := by
  refine calD D (fun _ _ _ _ _ _ us hl => match us, hl with | [_], _ => rfl) sc_target_of (fun vs H Q E h => by obtain ⟨l, rfl, hz, q⟩ := h; rfl) fun f cdv A outer s H vs Q E hr h => ?_
  have hu := hr.units
  have hu1 := hu_of hr
  obtain ⟨l, rfl, hz, q⟩ := h
  refine ⟨_, pss_one (ps_ret (C8.pe_c c_text_of hr (by decide) rfl (pa_cons (pe_slice (sl_X (K := K)) (pv 0) (po_some (pe_int)) (po_some (pe_int))) (pa_nil)))), ?_⟩
  exact s_ret (ev_call (ea_cons (ev_slY (m := sub l 157 257) (ev_var rfl) (eo_n (n := 157) ev_c) (eo_n (n := 257) ev_c) (by omega) sl_gen) ea_nil) (Ret.sp fun H1 e Q E q => ⟨_, rfl, by simp [sub]; omega, q⟩)) q
def spIsTextOf : Sp := fun vs H Q _ => ∃ (t : Option (List Nat)) (n : Nat), vs = [oT t, .int (n : Int)] ∧ (∀ x ∈ t, x.length ≤ 40000) ∧ Ret (.bl (isTextOf t n)) H Q
theorem sc_is_text_of : FnScope ["text", "size", "sign"] ["text", "size"] (defScope (topS 63)) := ⟨rfl, rfl, rfl, by decide +kernel, rfl, by decide +kernel, by decide +kernel⟩
theorem ok_is_text_of (g : GF K mg) (D : D0 K mg "is_text_of" (topS 63))   : C8.Cal P w K mg base 1 "is_text_of" (spIsTextOf) [] := by
  refine calD D (fun _ _ _ _ _ _ us hl => match us, hl with | [_, _], _ => rfl) sc_is_text_of (fun vs H Q E h => by obtain ⟨t, n, rfl, hz, q⟩ := h; rfl) fun f cdv A outer s H vs Q E hr h => ?_
  have hu := hr.units
  have hu1 := hu_of hr
  obtain ⟨t, n, rfl, hz, q⟩ := h
  refine ⟨_, pss_one (ps_ret (pe_and (pe_cmpR op_notN1 (pv 0) (pe_non) (nomark _)) (pe_and (pe_cmpR (op_eqX (K := K) hu) (pe_callB (cr_lenX (K := K)) rfl g.n_len bo_len (pa_cons (pv 0) (pa_nil))) (pe_op op_sub (pv 1) (pe_int)) (nomark _)) (pe_one (pe_callB (cr_allX (K := K) rfl) rfl g.n_all bo_all (pa_cons (pe_lc (own := [("sign", 2)]) (tt := tYes) rfl sc_is_text_of.nd (pi_str (pv 0)) (blkOk_by (N := ["text", "size", "sign"]) (sc := defScope (topS 63)) (by decide +kernel)) (fun _ _ _ _ _ => pg_name (i := 2) sc_is_text_of.nd rfl (Or.inl rfl)) (fun _ _ _ _ _ => pts_nil) (fun _ _ _ _ _ => pe_cmpR (op_inX (K := K)) (pv 2) (C8.pe_gc rfl g.c_LETTERS) (by with_unfolding_all rfl))) (pa_nil))))))), ?_⟩
  cases t with
  | none => exact s_ret (ev_andV (a := false) (b := true) (ev_op (ev_var rfl) ev_c rv_notN) (fun h => by cases h)) q
  | some t =>
    have hz := hz t rfl
    refine s_ret (ev_is (ev_andV (ev_op (ev_var rfl) ev_c rv_notN) fun _ => ev_andV (ev_op (ev_cb1 (ev_var rfl) (rc_lenT (by omega))) (ev_op (ev_var rfl) ev_c rv_subI) rv_eqI) fun _ => ev_allT (fun c => decide (c ∈ kLET)) (ev_var rfl) (by omega) (fun _ => rfl) fun c H2 _ _ => ev_is (ev_op (ev_var rfl) ev_c rv_inT) (congrArg V.bl (inT_one c kLET))) (congrArg V.bl ?_)) q
    show (true && (decide ((t.length : Int) = (n : Int) - 1) && okT t)) = (decide (t.length + 1 = n) && okT t)
    rw [Bool.true_and]
    congr 1
    rw [decide_eq_decide]
    omega
def spPadded : Sp := fun vs H Q _ => ∃ l : List UInt8, vs = [.byt l.toArray] ∧ l.length ≤ 1000000 ∧ Ret (.byt (padded l).toArray) H Q
theorem sc_padded : FnScope ["data"] ["data"] (defScope (topS 67)) := ⟨rfl, rfl, rfl, by decide +kernel, rfl, by decide +kernel, by decide +kernel⟩
theorem ok_padded (g : GF K mg) (D : D0 K mg "padded" (topS 67))   : C8.Cal P w K mg base 1 "padded" (spPadded) [] := by
  refine calD D (fun _ _ _ _ _ _ us hl => match us, hl with | [_], _ => rfl) sc_padded (fun vs H Q E h => by obtain ⟨l, rfl, hz, q⟩ := h; rfl) fun f cdv A outer s H vs Q E hr h => ?_
  have hu := hr.units
  have hu1 := hu_of hr
  obtain ⟨l, rfl, hz, q⟩ := h
  refine ⟨_, pss_one (ps_ret (pe_op op_addX (pv 0) (pe_callTy call_bytes_n rfl g.n_bytes bo_bytes (pa_cons (pe_op op_sub (pe_op op_mulX (pe_op op_divX (pe_un un_neg (pe_callB (cr_lenX (K := K)) rfl g.n_len bo_len (pa_cons (pv 0) (pa_nil)))) (C8.pe_gc rfl g.c_BLOCK)) (pe_un un_neg (C8.pe_gc rfl g.c_BLOCK))) (pe_callB (cr_lenX (K := K)) rfl g.n_len bo_len (pa_cons (pv 0) (pa_nil)))) (pa_nil))))), ?_⟩
  refine s_ret (ev_op (ev_var rfl) (ev_cb1 (ev_is (ev_op (ev_op (ev_op (ev_un (ev_cb1 (ev_var rfl) (rc_lenY (by omega))) ru_neg) ev_c (rv_divI ?_)) (ev_un ev_c ru_neg) (rv_mulI ?_)) (ev_cb1 (ev_var rfl) (rc_lenY (by omega))) rv_subI) (congrArg V.int ?_)) (rc_bytNn (n := (l.length + 511) / 512 * 512 - l.length) (by omega))) (rv_addY ?_)) q
  · exact wide_div (i := -(l.length : Int)) (j := 512) (b := 10) (by decide) (by decide) (by decide) (by decide)
  · exact wide_mul (i := -(l.length : Int) / 512) (j := -512) (a := 40) (b := 10) (by omega) (by decide) (by decide) (by decide) (by decide)
  · show -(l.length : Int) / 512 * -512 - (l.length : Int) = (((l.length + 511) / 512 * 512 - l.length : Nat) : Int)
    omega
  · rw [zs_len]
    omega
end
end Tar

/-! TaP5 -/
set_option Elab.async false
set_option linter.all false
set_option maxRecDepth 100000
set_option maxHeartbeats 4000000
/-! defs, 5: header -/
namespace Tar
open PySem PySem.Spec PyProof.Rows L2 Evl
section
variable {P : Program} {w : World} {K : PySem.W.Frag} {mg : Str → Option Value} {base : Heap}
def kwHeader : List (Str × V) := [("mode", .int 0), ("size", .int 0), ("time", .int 0), ("target", .str (SX.S []))]
def spHeader : Sp := fun vs H Q _ => ∃ (k n : List Nat) (m s t : Nat) (g : List Nat), vs = [.str (SX.S k), .str (SX.S n), .int (m : Int), .int (s : Int), .int (t : Int), .str (SX.S g)] ∧ (∀ c ∈ k, c < 128) ∧ (∀ c ∈ n, c < 128) ∧ (∀ c ∈ g, c < 128) ∧
  k.length ≤ 100 ∧ n.length ≤ 1000 ∧ g.length ≤ 1000 ∧ m ≤ 8589934592 ∧ s ≤ 8589934592 ∧ t ≤ 8589934592 ∧ Ret (.byt (header k n m s t g).toArray) H Q
theorem sc_header : FnScope ["kind", "name", "mode", "size", "time", "target", "front", "behind"] ["kind", "name", "mode", "size", "time", "target"] (defScope (topS 51)) := ⟨rfl, rfl, rfl, by decide +kernel, rfl, by decide +kernel, by decide +kernel⟩
theorem textField_len (t : List Nat) (n : Nat) : (textField t n).length = n := by
  unfold textField toB
  rw [List.length_take, List.length_append, zs_len]
  omega
theorem checksumField_len {l : List UInt8} (hz : l.length ≤ 10000) : (checksumField l).length ≤ 2001 := by
  unfold checksumField
  rw [List.length_append]
  have h1 : (octT (sumOf l)).length ≤ 1000 := octT_room (by have := sumOf_le l; omega)
  have := octalField_len (m := 7) h1 (by decide)
  show _ + 1 ≤ _
  omega
theorem magic_len : magicField.length = 8 := rfl
theorem octalField_len2 {n m a : Nat} (h : (octT n).length ≤ a) : (octalField n m).length ≤ a + m + 1 := by
  unfold octalField toB zfN
  rw [List.length_append, List.length_map, List.length_append, List.length_replicate, zs_len]
  omega
theorem octT12 {n : Nat} (h : n ≤ 8589934592) : (octT n).length ≤ 12 := octT_len 11 n (Nat.lt_of_le_of_lt h (by decide))
theorem ev_num {σ : L2.St} {H : Hp} {n : Nat} : Ev (tC (.int (n : Int))) σ H (.int (n : Int)) := ev_c
theorem body_header (g : GF K mg) (c_text_field : C8.Cal P w K mg base 1 "text_field" (spTextField) []) (c_octal_field : C8.Cal P w K mg base 1 "octal_field" (spOctalField) []) (c_magic_field : C8.Cal P w K mg base 1 "magic_field" (spMagicField) []) (c_checksum_field : C8.Cal P w K mg base 2 "checksum_field" (spChecksumField) []) (f : Addr) (cdv : Value) (A : Around) (outer : List Env) (s : Shared) (H : Hp) (vs : List V) (Q : VK) (E : XK) (hr : Room 3 (A.deeper (envOfC "header" (defScope (topS 51)) s.heap.objs.size f cdv))) (h : spHeader vs H Q E) :
      ∃ t, PSs (cxOf C8.CX0 P w K mg base ["kind", "name", "mode", "size", "time", "target", "front", "behind"] "header" (defScope (topS 51)) f cdv A outer s H E).nox (defBody (topS 51)) t ∧ t { nx := fun _ H' => Q .non H', rt := Q } (start ["kind", "name", "mode", "size", "time", "target", "front", "behind"] vs) H := by
  have hu := hr.units
  have hu1 := hu_of hr
  obtain ⟨k, n, m, s, t, g0, rfl, ak, an, ag, lk, ln, lg, hm, hs, ht, q⟩ := h
  refine ⟨_, pss_cons (ps_set (i := 6) sc_header.nd rfl (Or.inl rfl) (pe_op op_addX (pe_op op_addX (pe_op op_addX (C8.pe_c c_text_field hr (by decide) rfl (pa_cons (pv 1) (pa_cons (pe_int) (pa_nil)))) (C8.pe_c c_octal_field hr (by decide) rfl (pa_cons (pv 2) (pa_cons (pe_int) (pa_nil))))) (C8.pe_c c_octal_field hr (by decide) rfl (pa_cons (pe_int) (pa_cons (pe_int) (pa_nil))))) (C8.pe_c c_octal_field hr (by decide) rfl (pa_cons (pe_int) (pa_cons (pe_int) (pa_nil))))))
      (pss_cons (ps_set (i := 6) sc_header.nd rfl (Or.inl rfl) (pe_op op_addX (pe_op op_addX (pv 6) (C8.pe_c c_octal_field hr (by decide) rfl (pa_cons (pv 3) (pa_cons (pe_int) (pa_nil))))) (C8.pe_c c_octal_field hr (by decide) rfl (pa_cons (pv 4) (pa_cons (pe_int) (pa_nil))))))
      (pss_cons (ps_set (i := 7) sc_header.nd rfl (Or.inl rfl) (pe_op op_addX (pe_op op_addX (pe_op op_addX (pe_bm0 PySem.F.plainAttrs_str PySem.F.slot_str_encode PySem.F.type_str_encode mt_encode (pv 0)) (C8.pe_c c_text_field hr (by decide) rfl (pa_cons (pv 5) (pa_cons (pe_int) (pa_nil))))) (pe_c0 c_magic_field hr (by decide) rfl)) (pe_callTy call_bytes_n rfl g.n_bytes bo_bytes (pa_cons (pe_int) (pa_nil)))))
      (pss_one (ps_ret (pe_op op_addX (pe_op op_addX (pv 6) (C8.pe_c c_checksum_field hr (by decide) rfl (pa_cons (pe_op op_addX (pe_op op_addX (pv 6) (pe_callTy call_bytes_n rfl g.n_bytes bo_bytes (pa_cons (pe_int) (pa_nil)))) (pv 7)) (pa_nil)))) (pv 7)))))), ?_⟩
  have z8 : (octT 0).length ≤ 12 := octT12 (by decide)
  have zm := octT12 hm
  have zs' := octT12 hs
  have zt := octT12 ht
  have o1 := octalField_len2 (m := 8) zm
  have o0 := octalField_len2 (m := 8) z8
  have os := octalField_len2 (m := 12) zs'
  have ot := octalField_len2 (m := 12) zt
  have tn := textField_len n 100
  have tg := textField_len g0 100
  have lf : (frontOf n m s t).length ≤ 1000 := by
    unfold frontOf
    simp only [List.length_append]
    omega
  have lb : (behindOf k g0).length ≤ 1000 := by
    unfold behindOf toB
    simp only [List.length_append, zs_len, magic_len, List.length_map]
    omega
  refine q_asg (ev_op (ev_op (ev_op (ev_call (ea_cons (ev_var rfl) (ea_cons ev_c ea_nil)) (Ret.sp fun H1 e Q E q => ⟨n, 100, rfl, an, by omega, by decide, q⟩)) (ev_call (ea_cons (ev_var rfl) (ea_cons ev_c ea_nil)) (Ret.sp fun H1 e Q E q => ⟨m, 8, rfl, by decide, by decide, by omega, q⟩)) (rv_addY (by omega)))
    (ev_call (ea_cons ev_c (ea_cons ev_c ea_nil)) (Ret.sp fun H1 e Q E q => ⟨0, 8, rfl, by decide, by decide, by omega, q⟩)) (rv_addY (by simp only [List.length_append]; omega))) (ev_call (ea_cons ev_c (ea_cons ev_c ea_nil)) (Ret.sp fun H1 e Q E q => ⟨0, 8, rfl, by decide, by decide, by omega, q⟩)) (rv_addY (by simp only [List.length_append]; omega))) fun H1 e1 => ?_
  refine q_asg (v := .byt (frontOf n m s t).toArray) (ev_op (ev_op (ev_var rfl) (ev_call (ea_cons (ev_var rfl) (ea_cons ev_c ea_nil)) (Ret.sp fun H1 e Q E q => ⟨s, 12, rfl, by decide, by decide, by omega, q⟩)) (rv_addY (by simp only [List.length_append]; omega))) (ev_call (ea_cons (ev_var rfl) (ea_cons ev_c ea_nil)) (Ret.sp fun H1 e Q E q => ⟨t, 12, rfl, by decide, by decide, by omega, q⟩)) (rv_addY (by simp only [List.length_append]; omega))) fun H2 e2 => ?_
  refine q_asg (v := .byt (behindOf k g0).toArray) (ev_op (ev_op (ev_op (ev_enc (ev_var rfl) ak (by omega)) (ev_call (ea_cons (ev_var rfl) (ea_cons ev_c ea_nil)) (Ret.sp fun H1 e Q E q => ⟨g0, 100, rfl, ag, by omega, by decide, q⟩)) (rv_addY (by rw [List.length_map]; omega))) (ev_call ea_nil (Ret.sp fun H1 e Q E q => ⟨rfl, q⟩)) (rv_addY (by simp only [List.length_append, List.length_map, magic_len]; omega)))
    (ev_cb1 ev_c (rc_bytNn (n := 247) (by omega))) (rv_addY (by simp only [List.length_append, List.length_map, magic_len, zs_len]; omega))) fun H3 e3 => ?_
  have lm : (frontOf n m s t ++ zs 8 ++ behindOf k g0).length ≤ 10000 := by
    simp only [List.length_append, zs_len]
    omega
  have lc := checksumField_len lm
  exact s_ret (v := .byt (header k n m s t g0).toArray) (ev_op (ev_op (ev_var rfl) (ev_call (ea_cons (ev_op (ev_op (ev_var rfl) (ev_cb1 ev_c (rc_bytNn (n := 8) (by omega))) (rv_addY (by rw [zs_len]; omega))) (ev_var rfl) (rv_addY (by simp only [List.length_append, zs_len]; omega))) ea_nil) (Ret.sp fun H1 e Q E q => ⟨_, rfl, lm, q⟩)) (rv_addY (by omega))) (ev_var rfl) (rv_addY (by simp only [List.length_append]; omega))) fun H4 e4 => q H4 (((e1.trans e2).trans e3).trans e4)
/-- header(kind, name, size=..) -/
theorem ok_header1 (g : GF K mg) (D : D0K K mg "header" (topS 51) kwHeader) (c_text_field : C8.Cal P w K mg base 1 "text_field" (spTextField) []) (c_octal_field : C8.Cal P w K mg base 1 "octal_field" (spOctalField) []) (c_magic_field : C8.Cal P w K mg base 1 "magic_field" (spMagicField) []) (c_checksum_field : C8.Cal P w K mg base 2 "checksum_field" (spChecksumField) []) : CalN P w K mg base 4 "header" spHeader 2 ["size"] (fun vs zs => vs ++ ([.int 0] ++ (zs ++ [.int 0, .str (SX.S [])]))) :=
  calK (P := P) (w := w) (base := base) D (by decide) sc_header (fun vs H Q E h => by obtain ⟨k, n, m, s, t, g0, rfl, _⟩ := h; rfl) (fun f cdv A outer s H vs Q E hr h => body_header g c_text_field c_octal_field c_magic_field c_checksum_field f cdv A outer s H vs Q E hr h) 2 ["size"] [("mode", .int 0), ("time", .int 0), ("target", .str (SX.S []))]
    (fun us mv ws => us ++ (mv.take 1 ++ (ws ++ mv.drop 1))) (by simp [kwHeader]) (fun r1 r2 r3 => r1.append ((r2.take 1).append (r3.append (r2.drop 1)))) (fun D0 doc pm an cdv ct us mv ws h1 h2 h3 => match us, mv, ws, h1, h2, h3 with
      | [_, _], [_, _, _], [_], _, _, _ => ⟨_, _, _, _, _, _, rfl, rfl, _, _, _, _, _, _, rfl, rfl, _, _, _, _, _, _, rfl, rfl, rfl⟩)
/-- header(kind, name, mode=.., size=.., time=.., target=..) -/
theorem ok_header4 (g : GF K mg) (D : D0K K mg "header" (topS 51) kwHeader) (c_text_field : C8.Cal P w K mg base 1 "text_field" (spTextField) []) (c_octal_field : C8.Cal P w K mg base 1 "octal_field" (spOctalField) []) (c_magic_field : C8.Cal P w K mg base 1 "magic_field" (spMagicField) []) (c_checksum_field : C8.Cal P w K mg base 2 "checksum_field" (spChecksumField) []) : CalN P w K mg base 4 "header" spHeader 2 ["mode", "size", "time", "target"] (fun vs zs => vs ++ zs) :=
  calK (P := P) (w := w) (base := base) D (by decide) sc_header (fun vs H Q E h => by obtain ⟨k, n, m, s, t, g0, rfl, _⟩ := h; rfl) (fun f cdv A outer s H vs Q E hr h => body_header g c_text_field c_octal_field c_magic_field c_checksum_field f cdv A outer s H vs Q E hr h) 2 ["mode", "size", "time", "target"] []
    (fun us mv ws => us ++ ws) (by simp) (fun r1 r2 r3 => r1.append r3) (fun D0 doc pm an cdv ct us mv ws h1 h2 h3 => match us, mv, ws, h1, h2, h3 with
      | [_, _], [], [_, _, _, _], _, _, _ => rfl)
end
end Tar

/-! TaL -/
set_option Elab.async false
set_option linter.all false
set_option maxRecDepth 100000
set_option maxHeartbeats 4000000
/-! d.get(k, x) of a written dict -/
namespace Tar
open PySem PySem.Spec PyProof.Rows L2 Evl
/-- what a written dict has at a text -/
def KGet (K : PySem.W.Frag) (w : World) (a : Addr) (x : Str) (o : Option V) : Prop := ∃ es n r, K.lookup a = some ⟨.type "dict", none, .dict es n, #[]⟩ ∧ PySem.W.KeysLit w.params es.toList ∧ (a == sysModules) = false ∧ PySem.W.nsIn K a x = some r ∧ RelO o r
def tKGet (K : PySem.W.Frag) (w : World) (td ty tx : TE) : TE := fun σ H Q => td σ H fun x H1 => ∃ a, x = .ref a ∧ (∃ es n, K.lookup a = some ⟨.type "dict", none, .dict es n, #[]⟩) ∧ ty σ H1 fun y H2 => tx σ H2 fun z H3 => ∃ (t : Str) (o : Option V), y = .str t ∧ KGet K w a t o ∧ Q (o.getD z) H3
section
variable {X : Cx} {o e f : Expr} {apos cpos : Pos} {td ty tx : TE} {K : PySem.W.Frag} {w : World}
theorem pe_kget2 (ho : PE X o td) (he : PE X e ty) (hf : PE X f tx) (m : M2 X o "get" apos e f cpos) (hK : X.K = K := by rfl) (hw : X.w = w := by rfl) : PE X (.Call (.Attribute o "get" apos) [e, f] [] cpos) (tKGet K w td ty tx) := by
  subst hK hw
  refine ⟨fun pins s σ H Q I h => ?_⟩
  refine wpAny_Call_method m.base m.few m.line PySem.F.plainAttrs_dict PySem.F.slot_dict_get PySem.F.type_dict_get (thn (ho.run pins s σ H _ I h) fun u s1 ⟨x, H1, I1, rx, a, ex, d, q1⟩ => ?_)
  subst ex
  obtain rfl : u = Value.ref a := rx
  obtain ⟨es, n, hl⟩ := d
  have hg := I1.kIn _ _ hl
  refine ⟨⟨_, hg, rfl⟩, fun b q => ?_, ?_⟩
  · cases q
    exact ⟨_, hg, rfl⟩
  rw [m.trees]
  refine Calls.callWith_builtin rfl (Calls.evalArgs_plain (Calls.spliced_cons (thn (he.run pins s1 σ H1 _ I1 q1) fun iv s2 ⟨y, H2, I2, ry, q2⟩ =>
    Calls.spliced_cons (thn (hf.run pins s2 σ H2 _ I2 q2) fun fv s3 ⟨z, H3, I3, rz, t, ov, ey, g, q3⟩ => Calls.spliced_nil ?_))))
  subst ey
  obtain ⟨tk, rfl⟩ := ry
  obtain ⟨es2, n2, r, hl2, hk, hd, hn, ro⟩ := g
  have hm := PySem.W.mapOf_K (prog := X.prog) (w := X.w) I3.kIn hl2 hk
  refine call_meetsIn PySem.F.slot_dict_get hm.typeIs PySem.F.entry_dict_get (PySem.F.args_dict_get_3 _ _ _) (meets_dict_get_default (strKind X.prog X.w) a (strKind_is X.prog X.w t tk) hd fv) ⟨_, hm, ?_⟩
  rw [PySem.W.find_K hl2 hn]
  refine ⟨ov.getD z, H3, I3.tok _, ?_, q3⟩
  exact ro.getD rz
end
end Tar

/-! TaP6 -/
set_option Elab.async false
set_option linter.all false
set_option maxRecDepth 100000
set_option maxHeartbeats 4000000
/-! defs, 6: numbers_of, what is right -/
namespace Tar
open PySem PySem.Spec PyProof.Rows L2 Evl
/-- the dict that a comprehension makes -/
def dcN (key : Nat → Key) (val : Nat → V) : Nat → List (Key × V)
  | 0 => []
  | n + 1 => putK (dcN key val n) (key n) (val n)
theorem putK_len (kvs : List (Key × V)) (k : Key) (v : V) : (putK kvs k v).length ≤ kvs.length + 1 := by
  unfold putK
  split
  · simp
  · simp
theorem dcN_len (key : Nat → Key) (val : Nat → V) : ∀ n, (dcN key val n).length ≤ n
  | 0 => Nat.le_refl _
  | n + 1 => Nat.le_trans (putK_len _ _ _) (Nat.succ_le_succ (dcN_len key val n))
section
variable {K : PySem.W.Frag} {σ : L2.St} {H : Hp} {tl tk tv : TE} {g : TG} {vs : List Nat}
theorem er_dcU {a : Addr} {xs : List V} (key : Nat → Key) (val : Nat → V) (h : Ev tl σ H (.ref a)) (hx : SqT K H a xs) (hz : xs.length ≤ 1000)
    (ht : ∀ i x H1, Ex H H1 → xs[i]? = some x → g x (wipe σ vs) H1 fun σ2 H2 => H2 = H1 ∧ wipe σ2 vs = wipe σ vs ∧ Ev tk σ2 H (kV (key i)) ∧ Ev tv σ2 H (val i)) (hg : ∀ x (s : L2.St) (h1 : Hp) (Q1 Q2 : L2.St → Hp → Prop), g x s h1 Q1 → (∀ s2 h2, Q1 s2 h2 → Q2 s2 h2) → g x s h1 Q2) :
    Er (tDc (iTup K tl) g tYes tk tv vs) σ H (fun v H' => ∃ p, v = .ref p ∧ H p = none ∧ H' p = some (.dK (dcN key val xs.length))) := fun H0 e Q q => h H0 e _ fun H1 e1 => ⟨a, rfl, ⟨xs, ex_t (e.trans e1) hx⟩, fun Dl hD =>
  dc_tup (xs := xs) (fun i H' => H1 Dl = none ∧ Ex H1 H' ∧ H' Dl = some (.dK (dcN key val i))) ⟨hD, Ex.new hD, upd_same⟩ (fun i H' _ p => ex_t ((e.trans e1).trans p.2.1) hx) (fun i x H' hi p => by
    refine hg _ _ _ _ _ (ht i x H' ((e.trans e1).trans p.2.1) hi) fun s2 h2 r => ?_
    obtain ⟨rfl, r2, r3, r4⟩ := r
    refine ⟨r2, ?_⟩
    show tk s2 h2 _
    refine r3 h2 ((e.trans e1).trans p.2.1) _ fun H3 e3 => r4 H3 (((e.trans e1).trans p.2.1).trans e3) _ fun H4 e4 => ⟨dcN key val i, key i, rfl, e4 _ _ (e3 _ _ p.2.2), ?_, p.1, ?_, upd_same⟩
    · have := dcN_len key val i
      have := (List.getElem?_eq_some_iff.mp hi).1
      exact sz_lt (by omega)
    · exact Ex.mut ((p.2.1.trans e3).trans e4) p.1) (fun H' p => q _ H' (e1.trans p.2.1) ⟨Dl, rfl, fresh_back (e.trans e1) p.1, p.2.2⟩)⟩
end
section
variable {P : Program} {w : World} {K : PySem.W.Frag} {mg : Str → Option Value} {base : Heap}
/-- the table NUMBERS as it stands written -/
structure NumT (K : PySem.W.Frag) (aN : Addr) : Prop where
  ex : ∃ a1 a2 a3 a4 a5 : Addr, ∀ H : Hp, SqT K H aN [.ref a1, .ref a2, .ref a3, .ref a4, .ref a5] ∧ SqT K H a1 [.str "mode", .int 100, .int 8] ∧ SqT K H a2 [.str "owner", .int 108, .int 8] ∧ SqT K H a3 [.str "group", .int 116, .int 8] ∧
    SqT K H a4 [.str "size", .int 124, .int 12] ∧ SqT K H a5 [.str "time", .int 136, .int 12]
def numB : Nat → Str × Nat × Nat
  | 0 => ("mode", 100, 8)
  | 1 => ("owner", 108, 8)
  | 2 => ("group", 116, 8)
  | 3 => ("size", 124, 12)
  | _ => ("time", 136, 12)
def numAt (l : List UInt8) (i : Nat) : Option Nat := numberOf (sub l (numB i).2.1 ((numB i).2.1 + (numB i).2.2))
def numK (l : List UInt8) : List (Key × V) := [(.inr "mode", oI (numAt l 0)), (.inr "owner", oI (numAt l 1)), (.inr "group", oI (numAt l 2)), (.inr "size", oI (numAt l 3)), (.inr "time", oI (numAt l 4))]
theorem numK_eq (l : List UInt8) : dcN (fun i => .inr (numB i).1) (fun i => oI (numAt l i)) 5 = numK l := by rfl
def spNumbersOf : Sp := fun vs H Q _ => ∃ l : List UInt8, vs = [.byt l.toArray] ∧ l.length = 512 ∧ ∀ p H', H p = none → Ex H H' → H' p = some (.dK (numK l)) → Q (.ref p) H'
theorem gTup3_mono {i j k : Nat} (x : V) (s : L2.St) (h1 : Hp) (Q1 Q2 : L2.St → Hp → Prop) (h : gTup K 3 (gCons (gName i) (gCons (gName j) (gCons (gName k) gNil))) x s h1 Q1) (hq : ∀ s2 h2, Q1 s2 h2 → Q2 s2 h2) : gTup K 3 (gCons (gName i) (gCons (gName j) (gCons (gName k) gNil))) x s h1 Q2 := by
  obtain ⟨a, xs, e1, e2, e3, v1, r1, e4, v2, r2, e5, v3, r3, e6, e7, q⟩ := h
  exact ⟨a, xs, e1, e2, e3, v1, r1, e4, v2, r2, e5, v3, r3, e6, e7, hq _ _ q⟩
theorem sc_numbers_of : FnScope ["block", "field", "begin", "width"] ["block"] (defScope (topS 54)) := ⟨rfl, rfl, rfl, by decide +kernel, rfl, by decide +kernel, by decide +kernel⟩
theorem ok_numbers_of (g : GF K mg) (D : D0 K mg "numbers_of" (topS 54)) (c_number_of : C8.Cal P w K mg base 2 "number_of" (spNumberOf) []) {aN : Addr} (hNUMBERS : GV mg "NUMBERS" (.ref aN)) (hT : NumT K aN) : C8.Cal P w K mg base 3 "numbers_of" (spNumbersOf) [] := by
  refine calD D (fun _ _ _ _ _ _ us hl => match us, hl with | [_], _ => rfl) sc_numbers_of (fun vs H Q E h => by obtain ⟨l, rfl, hz, q⟩ := h; rfl) fun f cdv A outer s H vs Q E hr h => ?_
  have hu := hr.units
  have hu1 := hu_of hr
  obtain ⟨l, rfl, hz, q⟩ := h
  refine ⟨_, pss_one (ps_ret (pe_dc (own := [("field", 1), ("begin", 2), ("width", 3)]) (tt := tYes) rfl sc_numbers_of.nd (pi_tupK (K := K) (C8.pe_gc rfl hNUMBERS)) (blkOk_by (N := ["block", "field", "begin", "width"]) (sc := defScope (topS 54)) (by decide +kernel)) (fun _ _ _ _ _ => pg_tupK (K := K) (n := 3) rfl (pgs_cons (pg_name (i := 1) sc_numbers_of.nd rfl (Or.inl rfl)) (pgs_cons (pg_name (i := 2) sc_numbers_of.nd rfl (Or.inl rfl)) (pgs_cons (pg_name (i := 3) sc_numbers_of.nd rfl (Or.inl rfl)) (pgs_nil))))) (fun _ _ _ _ _ => pts_nil) (fun _ _ _ _ _ => pv 1) (fun _ _ _ _ _ => C8.pe_c c_number_of hr (by decide) rfl (pa_cons (pe_slice (sl_X (K := K)) (pv 0) (po_some (pv 2)) (po_some (pe_op op_addX (pv 2) (pv 3)))) (pa_nil))))), ?_⟩
  obtain ⟨a1, a2, a3, a4, a5, hT⟩ := hT.ex
  refine s_retR (er_dcU (fun i => .inr (numB i).1) (fun i => oI (numAt l i)) ev_c (hT H).1 (by simp) (fun i x H1 e1 hx => ?_) gTup3_mono) fun v H1 e1 hp => ?_
  · have hnum : ∀ (σ2 : L2.St) (b n : Nat), σ2[0]? = some (some (.byt l.toArray)) → σ2[2]? = some (some (.int (b : Int))) → σ2[3]? = some (some (.int (n : Int))) → b + n ≤ 512 → 2 ≤ n → n ≤ 100 → Ev (tCall spNumberOf [] C8.E0 (tCons (tSl (rSlX K) (tVar 0) (tPart (tVar 2)) (tPart (tOp rAddX (tVar 2) (tVar 3)))) tNil)) σ2 H (oI (numberOf (sub l b (b + n)))) := fun σ2 b n h0 h2 h3 hb hn hn2 =>
      ev_call (ea_cons (ev_slY (ev_var h0) (eo_n (ev_var h2)) (eo_n (n := b + n) (ev_is (ev_op (ev_var h2) (ev_var h3) rv_addI) (congrArg V.int (by omega)))) (by omega) sl_gen) ea_nil) (Ret.sp fun H1 e Q E q => ⟨sub l b (b + n), rfl, by rw [sub_len]; omega, by rw [sub_len]; omega, q⟩)
    match i, hx with
    | 0, hx => cases hx; exact ⟨a1, _, rfl, (hT H1).2.1, rfl, _, _, rfl, _, _, rfl, _, _, rfl, rfl, rfl, rfl, ev_var rfl, hnum _ 100 8 rfl rfl rfl (by decide) (by decide) (by decide)⟩
    | 1, hx => cases hx; exact ⟨a2, _, rfl, (hT H1).2.2.1, rfl, _, _, rfl, _, _, rfl, _, _, rfl, rfl, rfl, rfl, ev_var rfl, hnum _ 108 8 rfl rfl rfl (by decide) (by decide) (by decide)⟩
    | 2, hx => cases hx; exact ⟨a3, _, rfl, (hT H1).2.2.2.1, rfl, _, _, rfl, _, _, rfl, _, _, rfl, rfl, rfl, rfl, ev_var rfl, hnum _ 116 8 rfl rfl rfl (by decide) (by decide) (by decide)⟩
    | 3, hx => cases hx; exact ⟨a4, _, rfl, (hT H1).2.2.2.2.1, rfl, _, _, rfl, _, _, rfl, _, _, rfl, rfl, rfl, rfl, ev_var rfl, hnum _ 124 12 rfl rfl rfl (by decide) (by decide) (by decide)⟩
    | 4, hx => cases hx; exact ⟨a5, _, rfl, (hT H1).2.2.2.2.2, rfl, _, _, rfl, _, _, rfl, _, _, rfl, rfl, rfl, rfl, ev_var rfl, hnum _ 136 12 rfl rfl rfl (by decide) (by decide) (by decide)⟩
    | n + 5, hx => exact absurd hx (by simp)
  · obtain ⟨p, rfl, hn, h2⟩ := hp
    exact q p H1 hn e1 (by rw [← numK_eq]; exact h2)
end
end Tar

/-! TaP7 -/
set_option Elab.async false
set_option linter.all false
set_option maxRecDepth 100000
set_option maxHeartbeats 4000000
/-! defs, 7: what is right about a header -/
namespace Tar
open PySem PySem.Spec PyProof.Rows L2 Evl
/-- for k, v in f(..).items(): the dict is new and forgotten -/
theorem s_forItems {K : PySem.W.Frag} {σ : L2.St} {H : Hp} {D : Ends} {tu : TS} {te : TE} {kvs : List (Key × V)} {a b : Nat} (h : Er te σ H (fun v H1 => ∃ p, v = .ref p ∧ H p = none ∧ H1 p = some (.dK kvs))) (Pv : Nat → L2.St → Prop) (h0 : Pv 0 σ)
    (hs : ∀ i k v σ' H' (N : L2.St → Hp → Prop), kvs[i]? = some (k, v) → Ex H H' → Pv i σ' → (∀ σ2 H2, Ex H' H2 → Pv (i + 1) σ2 → N σ2 H2) → tu { D with nx := N, ct := N, bk := D.nx } ((σ'.set a (some (kV k))).set b (some v)) H')
    (hd : ∀ σ' H', Ex H H' → Pv kvs.length σ' → D.nx σ' H') : tFor (iItems (tFrz te)) (gTup K 2 (gCons (gName a) (gCons (gName b) gNil))) tu D σ H := by
  refine h H (Ex.refl _) _ fun v H1 e1 hp => ?_
  obtain ⟨d, rfl, hn, h1⟩ := hp
  refine ⟨d, _, rfl, h1, True.intro, fun od => ?_⟩
  refine ⟨d, od, kvs, rfl, upd_same, for_it walk_items (fun i σ' H' => Ex H H' ∧ H' d = some (.frz od (.dK kvs)) ∧ Pv i σ') ⟨Ex.mut e1 hn, upd_same, h0⟩ (fun i σ' H' _ p => p.2.1) (fun i x σ' Ha Hb hi p y => ?_) (fun σ' H' p => hd σ' H' p.1 p.2.2)⟩
  obtain ⟨T, x1, y1, rfl, hT, rfl, hx, hy⟩ := y
  have hk : kvs[i]? = some kvs[i] := List.getElem?_eq_getElem hi
  simp only [hk] at hx hy
  have ex : x1 = kV kvs[i].1 := (Option.some.inj hx).symm
  have ey : y1 = kvs[i].2 := (Option.some.inj hy).symm
  subst ex ey
  have e2 : Ex Ha (upd Ha T (.tup [kV kvs[i].1, kvs[i].2])) := Ex.new hT
  exact ⟨T, _, rfl, st_of upd_same, rfl, _, _, rfl, _, _, rfl, rfl, hs i kvs[i].1 kvs[i].2 σ' _ _ hk (p.1.trans e2) p.2.2 fun σ2 H2 e3 pv => ⟨(p.1.trans e2).trans e3, e3 _ _ (e2 _ _ p.2.1), pv⟩⟩
theorem q_forItems {K : PySem.W.Frag} {σ : L2.St} {H : Hp} {D : Ends} {tu tz : TS} {te : TE} {kvs : List (Key × V)} {a b : Nat} (h : Er te σ H (fun v H1 => ∃ p, v = .ref p ∧ H p = none ∧ H1 p = some (.dK kvs))) (Pv : Nat → L2.St → Prop) (h0 : Pv 0 σ)
    (hs : ∀ i k v σ' H' (N : L2.St → Hp → Prop), kvs[i]? = some (k, v) → Ex H H' → Pv i σ' → (∀ σ2 H2, Ex H' H2 → Pv (i + 1) σ2 → N σ2 H2) → tu { D with nx := N, ct := N, bk := tz D } ((σ'.set a (some (kV k))).set b (some v)) H')
    (hd : ∀ σ' H', Ex H H' → Pv kvs.length σ' → tz D σ' H') : tSeq (tFor (iItems (tFrz te)) (gTup K 2 (gCons (gName a) (gCons (gName b) gNil))) tu) tz D σ H := s_forItems (D := { D with nx := tz D }) h Pv h0 hs hd
def kvL (lk ll : Option (List Nat)) : List (Key × V) := (match lk with | some t => [(.inr "K", .str (SX.S t))] | none => []) ++ (match ll with | some t => [(.inr "L", .str (SX.S t))] | none => [])
theorem kvL_K (lk ll : Option (List Nat)) : valV (kvL lk ll) (.inr "K") = lk.map fun t => .str (SX.S t) := by cases lk <;> cases ll <;> rfl
theorem kvL_L (lk ll : Option (List Nat)) : valV (kvL lk ll) (.inr "L") = ll.map fun t => .str (SX.S t) := by cases lk <;> cases ll <;> rfl
section
variable {σ : L2.St} {H : Hp} {td ty : TE} {a : Addr} {kvs : List (Key × V)} {k : Key} {v : V}
theorem ev_dget (h : Ev td σ H (.ref a)) (hy : Ev ty σ H (kV k)) (hd : Rd H a (.dK kvs)) (hv : valV kvs k = some v) : Ev (tDGet td ty) σ H v := fun H1 e Q q =>
  h H1 e _ fun H2 e2 => hy H2 (e.trans e2) _ fun H3 e3 => ⟨a, v, rfl, .inl ⟨kvs, k, ex_rd ((e.trans e2).trans e3) hd, rfl, hv.symm⟩, q H3 (e2.trans e3)⟩
theorem ev_dgetR {R : V → Hp → Prop} (h : Er td σ H (fun v H1 => ∃ p, v = .ref p ∧ H p = none ∧ H1 p = some (.dK kvs))) (hy : ∀ H1, Ex H H1 → Ev ty σ H1 (kV k)) (hv : valV kvs k = some v) : Ev (tDGet td ty) σ H v := fun H1 e Q q =>
  h H1 e _ fun x H2 e2 hp => by
    obtain ⟨p, rfl, _, h2⟩ := hp
    exact hy H2 (e.trans e2) H2 (Ex.refl _) _ fun H3 e3 => ⟨p, v, rfl, .inl ⟨kvs, k, .inl (e3 _ _ h2), rfl, hv.symm⟩, q H3 (e2.trans e3)⟩
theorem ev_din (hy : Ev ty σ H (kV k)) (h : Ev td σ H (.ref a)) (hd : Rd H a (.dK kvs)) : Ev (tDIn ty td) σ H (.bl (valV kvs k).isSome) := fun H1 e Q q =>
  hy H1 e _ fun H2 e2 => h H2 (e.trans e2) _ fun H3 e3 => ⟨a, _, rfl, .inl ⟨kvs, k, ex_rd ((e.trans e2).trans e3) hd, rfl, rfl⟩, q H3 (e2.trans e3)⟩
theorem ev_dnotin (hy : Ev ty σ H (kV k)) (h : Ev td σ H (.ref a)) (hd : Rd H a (.dK kvs)) : Ev (tDNotIn ty td) σ H (.bl (!(valV kvs k).isSome)) := fun H1 e Q q =>
  hy H1 e _ fun H2 e2 => h H2 (e.trans e2) _ fun H3 e3 => ⟨a, _, rfl, .inl ⟨kvs, k, ex_rd ((e.trans e2).trans e3) hd, rfl, rfl⟩, q H3 (e2.trans e3)⟩
end
theorem dec_oT {x : Option (List Nat)} {t : List Nat} : decide (oT x = V.str (SX.S t)) = decide (x = some t) := by
  cases x with
  | none => rfl
  | some y =>
    show decide (V.str (SX.S y) = V.str (SX.S t)) = _
    rw [dec_txt, decide_eq_decide]
    exact ⟨fun h => by rw [h], fun h => Option.some.inj h⟩
theorem scal_oT {x : Option (List Nat)} {t : List Nat} : scal (oT x) (V.str (SX.S t)) = true := by cases x <;> rfl
theorem rv_eqO {K : PySem.W.Frag} {H : Hp} {x : Option (List Nat)} {t : List Nat} : RV (rEqX K) (oT x) (.str (SX.S t)) H (.bl (decide (x = some t))) := by
  rw [← dec_oT]
  exact rv_eqX scal_oT
def lenO (x : Option (List Nat)) (n : Nat) : Prop := ∀ t ∈ x, t.length ≤ n
theorem nameOf_len (b : List UInt8) : ∀ t ∈ nameOf b, t.length ≤ 100 := fun t h => by
  have := textOf_len (show textOf (b.take 100) = some t from h)
  rw [List.length_take] at this
  omega
theorem targetOf_len (b : List UInt8) : ∀ t ∈ targetOf b, t.length ≤ 100 := fun t h => by
  have := textOf_len (show textOf (sub b 157 257) = some t from h)
  rw [sub_len] at this
  omega
def isNameRight (b : List UInt8) (ll : Option (List Nat)) : Bool := match ll with
  | some t => decide (nameOf b = some (t.take 100))
  | none => decide (nameOf b = some kLL) || isName (nameOf b)
section
variable {P : Program} {w : World} {K : PySem.W.Frag} {mg : Str → Option Value} {base : Heap}
def spIsNameRight : Sp := fun vs H Q _ => ∃ (l : List UInt8) (a : Addr) (lk ll : Option (List Nat)), vs = [.byt l.toArray, .ref a] ∧ l.length = 512 ∧ H a = some (.dK (kvL lk ll)) ∧ lenO ll 1000 ∧ Ret (.bl (isNameRight l ll)) H Q
theorem sc_is_name_right : FnScope ["block", "long", "name"] ["block", "long"] (defScope (topS 58)) := ⟨rfl, rfl, rfl, by decide +kernel, rfl, by decide +kernel, by decide +kernel⟩
theorem ok_is_name_right (g : GF K mg) (D : D0 K mg "is_name_right" (topS 58)) (c_is_name : C8.Cal P w K mg base 1 "is_name" (spIsName) []) (c_name_of : C8.Cal P w K mg base 2 "name_of" (spNameOf) [])  : C8.Cal P w K mg base 3 "is_name_right" (spIsNameRight) [] := by
  refine calD D (fun _ _ _ _ _ _ us hl => match us, hl with | [_, _], _ => rfl) sc_is_name_right (fun vs H Q E h => by obtain ⟨l, a, lk, ll, rfl, hz, hd, hl, q⟩ := h; rfl) fun f cdv A outer s H vs Q E hr h => ?_
  have hu := hr.units
  have hu1 := hu_of hr
  obtain ⟨l, a, lk, ll, rfl, hz, hd, hl, q⟩ := h
  refine ⟨_, pss_cons (ps_set (i := 2) sc_is_name_right.nd rfl (Or.inl rfl) (C8.pe_c c_name_of hr (by decide) rfl (pa_cons (pv 0) (pa_nil))))
      (pss_cons (ps_if (pt_cmp (pc_din hu1 (pe_str) (pv 1))) (pss_one (ps_ret (pe_cmpR (op_eqX (K := K) hu) (pv 2) (pe_slice (sl_X (K := K)) (pe_dget hu1 (pv 1) (pe_str) (fun _ _ => rfl)) (po_none) (po_some (C8.pe_gc rfl g.c_MOST_SHORT))) (nomark _)))) (pss_nil))
      (pss_one (ps_ret (pe_or (pe_cmpR (op_eqX (K := K) hu) (pv 2) (C8.pe_gc rfl g.c_LONG_NAME) (nomark _)) (pe_one (C8.pe_c c_is_name hr (by decide) rfl (pa_cons (pv 2) (pa_nil)))))))), ?_⟩
  refine q_asg (ev_call (ea_cons (ev_var rfl) ea_nil) (Ret.sp fun H1 e Q E q => ⟨l, rfl, by omega, q⟩)) fun H1 e1 => ?_
  have hd1 := e1 _ _ hd
  refine q_when (et_B (ev_din (k := .inr "L") ev_c (ev_var rfl) (.inl hd1))) (fun hb H2 e2 => ?_) (fun hb H2 e2 => ?_)
  · rw [kvL_L] at hb
    cases ll with
    | none => cases hb
    | some t =>
      have hl := hl t rfl
      exact s_ret (ev_op (ev_var rfl) (ev_slT (ev_dget (k := .inr "L") (ev_var rfl) ev_c (.inl (e2 _ _ hd1)) (by rw [kvL_L]; rfl)) eo_none (eo_n (n := 100) ev_c) (by omega) sl_toT) rv_eqO) fun H3 e3 => q H3 ((e1.trans e2).trans e3)
  · rw [kvL_L] at hb
    cases ll with
    | some t => cases hb
    | none => exact s_ret (ev_orV (ev_op (ev_var rfl) ev_c rv_eqO) fun _ => ev_call (ea_cons (ev_var rfl) ea_nil) (Ret.sp fun H1 e Q E q => ⟨nameOf l, rfl, fun x hx => by have := nameOf_len l x hx; omega, q⟩)) fun H3 e3 => q H3 ((e1.trans e2).trans e3)
/-- what a number field asks: f the field, ll: the name is the long one's -/
def okNum (f : Str) (n : Nat) (ll : Bool) : Bool :=
  (!decide (V.str f = V.str "mode") || decide (n ≤ 4095)) && (!inV (.str f) [.str "owner", .str "group"] || decide (n = 0)) && (!(inV (.str f) [.str "mode", .str "time"] && ll) || decide (n = 0))
def okNumO (f : Str) (o : Option Nat) (ll : Bool) : Bool := match o with
  | none => false
  | some n => okNum f n ll
def isLL (l : List UInt8) : Bool := decide (nameOf l = some kLL)
def wrongNum (l : List UInt8) : Option Str := ((List.range 5).find? fun i => !okNumO (numB i).1 (numAt l i) (isLL l)).map fun i => (numB i).1
def oS : Option Str → V
  | none => .non
  | some s => .str s
theorem numK_at (l : List UInt8) {i : Nat} {k : Key} {v : V} (h : (numK l)[i]? = some (k, v)) : i < 5 ∧ k = .inr (numB i).1 ∧ v = oI (numAt l i) := by
  match i, h with
  | 0, h => cases h; exact ⟨by decide, rfl, rfl⟩
  | 1, h => cases h; exact ⟨by decide, rfl, rfl⟩
  | 2, h => cases h; exact ⟨by decide, rfl, rfl⟩
  | 3, h => cases h; exact ⟨by decide, rfl, rfl⟩
  | 4, h => cases h; exact ⟨by decide, rfl, rfl⟩
  | n + 5, h => exact absurd h (by simp [numK])
def spWrongNumber : Sp := fun vs H Q _ => ∃ l : List UInt8, vs = [.byt l.toArray] ∧ l.length = 512 ∧ Ret (oS (wrongNum l)) H Q
theorem er_numbers {σ : L2.St} {H : Hp} {ta : TA} {l : List UInt8} (h : EvA ta σ H [.byt l.toArray]) (hz : l.length = 512) : Er (tCall spNumbersOf [] C8.E0 ta) σ H (fun v H1 => ∃ p, v = .ref p ∧ H p = none ∧ H1 p = some (.dK (numK l))) := fun H1 e Q q =>
  h H1 e _ fun H2 e2 => ⟨l, rfl, hz, fun p H' hp e3 h3 => q _ _ (e2.trans e3) ⟨p, rfl, fresh_back (e.trans e2) hp, h3⟩⟩
theorem sc_wrong_number : FnScope ["block", "field", "number", "is_right"] ["block"] (defScope (topS 59)) := ⟨rfl, rfl, rfl, by decide +kernel, rfl, by decide +kernel, by decide +kernel⟩
theorem ok_wrong_number (g : GF K mg) (D : D0 K mg "wrong_number" (topS 59)) (c_numbers_of : C8.Cal P w K mg base 3 "numbers_of" (spNumbersOf) []) (c_name_of : C8.Cal P w K mg base 2 "name_of" (spNameOf) [])  : C8.Cal P w K mg base 4 "wrong_number" (spWrongNumber) [] := by
  refine calD D (fun _ _ _ _ _ _ us hl => match us, hl with | [_], _ => rfl) sc_wrong_number (fun vs H Q E h => by obtain ⟨l, rfl, hz, q⟩ := h; rfl) fun f cdv A outer s H vs Q E hr h => ?_
  have hu := hr.units
  have hu1 := hu_of hr
  obtain ⟨l, rfl, hz, q⟩ := h
  refine ⟨_, pss_cons (ps_for PassesOwn.never rfl (pi_items (pe_frz (C8.pe_c c_numbers_of hr (by decide) rfl (pa_cons (pv 0) (pa_nil))))) (pg_tupK (K := K) (n := 2) rfl (pgs_cons (pg_name (i := 1) sc_wrong_number.nd rfl (Or.inl rfl)) (pgs_cons (pg_name (i := 2) sc_wrong_number.nd rfl (Or.inl rfl)) (pgs_nil))))
      (pss_cons (ps_set (i := 3) sc_wrong_number.nd rfl (Or.inl rfl) (pe_cmpR op_notN1 (pv 2) (pe_non) (nomark _)))
      (pss_cons (ps_if (PW.pt (pw_and (pt_val (pv 3)) (pw_and1 (pt_cmpR (op_eqX (K := K) hu) (pv 1) (pe_str) (nomark _))))) (pss_one (ps_set (i := 3) sc_wrong_number.nd rfl (Or.inl rfl) (pe_cmpR op_le (pv 2) (C8.pe_gc rfl g.c_MOST_MODE) (nomark _)))) (pss_nil))
      (pss_cons (ps_if (PW.pt (pw_and (pt_val (pv 3)) (pw_and1 (pt_cmpR (op_inX (K := K)) (pv 1) (pe_tup (pa_cons (pe_str) (pa_cons (pe_str) (pa_nil)))) (by with_unfolding_all rfl))))) (pss_one (ps_set (i := 3) sc_wrong_number.nd rfl (Or.inl rfl) (pe_cmpR (op_eqX (K := K) hu) (pv 2) (pe_int) (nomark _)))) (pss_nil))
      (pss_cons (ps_if (PW.pt (pw_and (pt_val (pv 3)) (pw_and (pt_cmpR (op_inX (K := K)) (pv 1) (pe_tup (pa_cons (pe_str) (pa_cons (pe_str) (pa_nil)))) (by with_unfolding_all rfl)) (pw_and1 (pt_cmpR (op_eqX (K := K) hu) (C8.pe_c c_name_of hr (by decide) rfl (pa_cons (pv 0) (pa_nil))) (C8.pe_gc rfl g.c_LONG_NAME) (nomark _)))))) (pss_one (ps_set (i := 3) sc_wrong_number.nd rfl (Or.inl rfl) (pe_cmpR (op_eqX (K := K) hu) (pv 2) (pe_int) (nomark _)))) (pss_nil))
      (pss_one (ps_if (pt_not (pt_val (pv 3))) (pss_one (ps_ret (pv 1))) (pss_nil))))))))
      (pss_one (ps_ret (pe_non))), ?_⟩
  refine q_forItems (kvs := numK l) (er_numbers (ea_cons (ev_var rfl) ea_nil) hz) (fun i σ' => (∃ a b c, σ' = [some (.byt l.toArray), a, b, c]) ∧ ∀ j, j < i → okNumO (numB j).1 (numAt l j) (isLL l) = true) ⟨⟨_, _, _, rfl⟩, fun j hj => absurd hj (Nat.not_lt_zero j)⟩ (fun i k v σ' H' N hi e1 p hN => ?_) (fun σ' H' e1 p => ?_)
  · obtain ⟨⟨a, b, c, rfl⟩, hp⟩ := p
    obtain ⟨h5, rfl, rfl⟩ := numK_at l hi
    have hfin : ∀ (r : Bool) H2, Ex H' H2 → okNumO (numB i).1 (numAt l i) (isLL l) = r → tIfS (tNot (tB (tVar 3))) (tRet (tVar 1)) tNext { nx := N, rt := Q, bk := tRet (tC V.non) { nx := fun x H' => Q V.non H', rt := Q }, ct := N } [some (.byt l.toArray), some (.str (numB i).1), some (oI (numAt l i)), some (.bl r)] H2 := fun r H2 e2 hr2 => by
      refine s_when (b := !r) (et_not (et_B (ev_var rfl))) (fun hb H3 e3 => s_ret (ev_var rfl) fun H4 e4 => ?_) (fun hb H3 e3 => hN _ _ (e2.trans e3) ⟨⟨_, _, _, rfl⟩, fun j hj => ?_⟩)
      · have hr0 : okNumO (numB i).1 (numAt l i) (isLL l) = false := by rw [hr2]; cases r <;> simp at hb ⊢
        have e5 : wrongNum l = some (numB i).1 := by
          unfold wrongNum
          have : (List.range 5).find? (fun i => !okNumO (numB i).1 (numAt l i) (isLL l)) = some i := by
            rw [List.find?_range_eq_some]
            refine ⟨by rw [hr0]; rfl, List.mem_range.mpr h5, fun j hj => by rw [hp j hj]; rfl⟩
          rw [this]
          rfl
        have q2 := q H4 (((e1.trans e2).trans e3).trans e4)
        rw [e5] at q2
        exact q2
      · by_cases hj2 : j < i
        · exact hp j hj2
        · have : j = i := by omega
          subst this
          rw [hr2]
          cases r <;> simp at hb ⊢
    revert hfin
    cases ho : numAt l i with
    | none =>
      intro hfin
      refine q_asg (v := .bl false) (ev_is (ev_op (ev_var rfl) ev_c rv_notN) rfl) fun H2 e2 => ?_
      refine q_when (b := false) (et_and (a := false) (b := false) (et_B (ev_var rfl)) (fun h => by cases h)) (fun h => by cases h) fun _ H3 e3 => ?_
      refine q_when (b := false) (et_and (a := false) (b := false) (et_B (ev_var rfl)) (fun h => by cases h)) (fun h => by cases h) fun _ H4 e4 => ?_
      refine q_when (b := false) (et_and (a := false) (b := false) (et_B (ev_var rfl)) (fun h => by cases h)) (fun h => by cases h) fun _ H5 e5 => ?_
      exact hfin false H5 (((e2.trans e3).trans e4).trans e5) rfl
    | some n =>
      intro hfin
      refine q_asg (v := .bl true) (ev_is (ev_op (ev_var rfl) ev_c rv_notN) rfl) fun H2 e2 => ?_
      refine q_ifAsg (v := .bl (!decide (V.str (numB i).1 = V.str "mode") || decide (n ≤ 4095))) (et_and (a := true) (et_B (ev_var rfl)) fun _ => et_test (ev_op (ev_var rfl) ev_c (rv_eqX rfl))) (fun hb => ev_is (ev_op (ev_var rfl) ev_c rv_le) ?_) (fun hb => ?_) fun H3 e3 => ?_
      · have hb : decide (V.str (numB i).1 = V.str "mode") = true := hb
        rw [hb]
        congr 1
        show decide ((n : Int) ≤ 4095) = (false || decide (n ≤ 4095))
        rw [Bool.false_or, decide_eq_decide]
        omega
      · have hb : decide (V.str (numB i).1 = V.str "mode") = false := hb
        rw [hb]
        rfl
      generalize hr1 : (!decide (V.str (numB i).1 = V.str "mode") || decide (n ≤ 4095)) = r1
      refine q_ifAsg (v := .bl (r1 && (!inV (.str (numB i).1) [.str "owner", .str "group"] || decide (n = 0)))) (et_and (a := r1) (et_B (ev_var rfl)) fun _ => et_test (ev_inTup (ev_var rfl) (eu_tup (ea_cons ev_c (ea_cons ev_c ea_nil)) (by decide)) rfl rfl)) (fun hb => ev_is (ev_op (ev_var rfl) ev_c rv_eqI) ?_) (fun hb => ?_) fun H4 e4 => ?_
      · have hb2 : r1 = true ∧ inV (.str (numB i).1) [.str "owner", .str "group"] = true := by rw [← Bool.and_eq_true]; exact hb
        rw [hb2.1, hb2.2]
        congr 1
        show decide ((n : Int) = 0) = (true && (false || decide (n = 0)))
        rw [Bool.true_and, Bool.false_or, decide_eq_decide]
        omega
      · cases r1 with
        | false => rfl
        | true =>
          have hb2 : inV (.str (numB i).1) [.str "owner", .str "group"] = false := hb
          rw [hb2]
          rfl
      generalize hr2 : (r1 && (!inV (.str (numB i).1) [.str "owner", .str "group"] || decide (n = 0))) = r2
      refine q_ifAsg (v := .bl (r2 && (!(inV (.str (numB i).1) [.str "mode", .str "time"] && isLL l) || decide (n = 0)))) (et_and (a := r2) (et_B (ev_var rfl)) fun _ => et_and (et_test (ev_inTup (ev_var rfl) (eu_tup (ea_cons ev_c (ea_cons ev_c ea_nil)) (by decide)) rfl rfl)) fun _ => et_test (ev_op (ev_call (ea_cons (ev_var rfl) ea_nil) (Ret.sp fun H1 e Q E q => ⟨l, rfl, by omega, q⟩)) ev_c rv_eqO)) (fun hb => ev_is (ev_op (ev_var rfl) ev_c rv_eqI) ?_) (fun hb => ?_) fun H5 e5 => ?_
      · have hb2 : r2 = true ∧ (inV (.str (numB i).1) [.str "mode", .str "time"] && isLL l) = true := by rw [← Bool.and_eq_true]; exact hb
        rw [hb2.1, hb2.2]
        congr 1
        show decide ((n : Int) = 0) = (true && (false || decide (n = 0)))
        rw [Bool.true_and, Bool.false_or, decide_eq_decide]
        omega
      · cases r2 with
        | false => rfl
        | true =>
          have hb2 : (inV (.str (numB i).1) [.str "mode", .str "time"] && isLL l) = false := hb
          rw [hb2]
          rfl
      refine hfin _ H5 (((e2.trans e3).trans e4).trans e5) ?_
      show okNum _ _ _ = _
      unfold okNum
      rw [hr1, hr2]
  · refine s_ret ev_c fun H2 e2 => ?_
    have e3 : wrongNum l = none := by
      unfold wrongNum
      have : (List.range 5).find? (fun i => !okNumO (numB i).1 (numAt l i) (isLL l)) = none := by
        rw [List.find?_eq_none]
        intro i hi
        rw [p.2 i (List.mem_range.mp hi)]
        simp
      rw [this]
      rfl
    have q2 := q H2 (e1.trans e2)
    rw [e3] at q2
    exact q2
end
end Tar

/-! TaP8 -/
set_option Elab.async false
set_option linter.all false
set_option maxRecDepth 100000
set_option maxHeartbeats 4000000
/-! defs, 8: kind, target, the wrong field -/
namespace Tar
open PySem PySem.Spec PyProof.Rows L2 Evl
def isKindRight (b : List UInt8) (lk ll : Option (List Nat)) : Bool :=
  !(decide (kindOf b = []) || (!inT (kindOf b) kKIN || (inT (kindOf b) [75, 76] != isLL b))) && (!((lk.isSome || ll.isSome) && decide (kindOf b = [75])) && (!lk.isSome || inT (kindOf b) [76, 49, 50]))
def tgtOk (lk o : Option (List Nat)) : Bool := match lk with
  | some t => decide (o = some (t.take 100))
  | none => isName o
def isTargetRight (b : List UInt8) (lk : Option (List Nat)) : Bool :=
  if inT (kindOf b) [49, 50] = true then tgtOk lk (targetOf b) else decide (targetOf b = some [])
theorem kvL_empty (lk ll : Option (List Nat)) : (!(kvL lk ll).isEmpty) = (lk.isSome || ll.isSome) := by cases lk <;> cases ll <;> rfl
theorem kindOf_len (b : List UInt8) : (kindOf b).length ≤ 1 := by
  unfold kindOf
  cases h : textOf (sub b 156 157) with
  | none => exact Nat.zero_le _
  | some t =>
    have := textOf_len h
    rw [sub_len] at this
    show t.length ≤ 1
    omega
theorem dec_bl2 {a b : Bool} : (!decide (V.bl a = V.bl b)) = (a != b) := by cases a <;> cases b <;> rfl
section
variable {P : Program} {w : World} {K : PySem.W.Frag} {mg : Str → Option Value} {base : Heap}
theorem ev_neD0 {σ : L2.St} {H : Hp} {ta : TE} {a : Addr} {kvs : List (Key × V)} (h : Ev ta σ H (.ref a)) (hd : H a = some (.dK kvs)) : Ev (tOp (rNeX K) ta tDNewK) σ H (.bl (!kvs.isEmpty)) := fun H1 e Q q =>
  h H1 e _ fun H2 e2 p hp => .inr ⟨a, p, kvs, rfl, rfl, (Ex.new hp) _ _ (e2 _ _ (e _ _ hd)), upd_same, q _ (e2.trans (Ex.new hp))⟩
def spIsKindRight : Sp := fun vs H Q _ => ∃ (l : List UInt8) (a : Addr) (lk ll : Option (List Nat)), vs = [.byt l.toArray, .ref a] ∧ l.length = 512 ∧ H a = some (.dK (kvL lk ll)) ∧ Ret (.bl (isKindRight l lk ll)) H Q
theorem sc_is_kind_right : FnScope ["block", "long", "kind"] ["block", "long"] (defScope (topS 60)) := ⟨rfl, rfl, rfl, by decide +kernel, rfl, by decide +kernel, by decide +kernel⟩
theorem ok_is_kind_right (g : GF K mg) (D : D0 K mg "is_kind_right" (topS 60)) (c_name_of : C8.Cal P w K mg base 2 "name_of" (spNameOf) []) (c_kind_of : C8.Cal P w K mg base 2 "kind_of" (spKindOf) [])  : C8.Cal P w K mg base 3 "is_kind_right" (spIsKindRight) [] := by
  refine calD D (fun _ _ _ _ _ _ us hl => match us, hl with | [_, _], _ => rfl) sc_is_kind_right (fun vs H Q E h => by obtain ⟨l, a, lk, ll, rfl, hz, hd, q⟩ := h; rfl) fun f cdv A outer s H vs Q E hr h => ?_
  have hu := hr.units
  have hu1 := hu_of hr
  obtain ⟨l, a, lk, ll, rfl, hz, hd, q⟩ := h
  refine ⟨_, pss_cons (ps_set (i := 2) sc_is_kind_right.nd rfl (Or.inl rfl) (C8.pe_c c_kind_of hr (by decide) rfl (pa_cons (pv 0) (pa_nil))))
      (pss_cons (ps_if (PW.pt (pw_or (pt_cmpR (op_eqX (K := K) hu) (pv 2) (pe_str) (nomark _)) (pw_or (pt_cmpR op_niX (pv 2) (C8.pe_gc rfl g.c_KINDS) (by with_unfolding_all rfl)) (pw_or1 (pt_cmpR (op_neX (K := K) hu) (pe_cmpR (op_inX (K := K)) (pv 2) (pe_str) (by with_unfolding_all rfl)) (pe_cmpR (op_eqX (K := K) hu) (C8.pe_c c_name_of hr (by decide) rfl (pa_cons (pv 0) (pa_nil))) (C8.pe_gc rfl g.c_LONG_NAME) (nomark _)) (nomark _)))))) (pss_one (ps_ret (pe_bl))) (pss_nil))
      (pss_cons (ps_if (PW.pt (pw_and (pt_cmpR (op_neX (K := K) hu) (pv 1) (pe_dnewK) (nomark _)) (pw_and1 (pt_cmpR (op_eqX (K := K) hu) (pv 2) (pe_str) (nomark _))))) (pss_one (ps_ret (pe_bl))) (pss_nil))
      (pss_one (ps_ret (pe_or (pe_cmp (pc_dnotin hu1 (pe_str) (pv 1))) (pe_one (pe_cmpR (op_inX (K := K)) (pv 2) (pe_str) (by with_unfolding_all rfl)))))))), ?_⟩
  refine q_asg (ev_call (ea_cons (ev_var rfl) ea_nil) (Ret.sp fun H1 e Q E q => ⟨l, rfl, by omega, q⟩)) fun H1 e1 => ?_
  have hd1 := e1 _ _ hd
  refine q_when (b := (decide (kindOf l = []) || (!inT (kindOf l) kKIN || (inT (kindOf l) [75, 76] != isLL l)))) (et_or (et_test (ev_op (ev_var rfl) (ev_lit (l := []) rfl) rv_eqT)) fun _ => et_or (et_test (ev_op (ev_var rfl) ev_c rv_niT)) fun _ => et_is (et_test (ev_op (ev_op (ev_var rfl) (ev_lit (l := [75, 76]) rfl) rv_inT) (ev_op (ev_call (ea_cons (ev_var rfl) ea_nil) (Ret.sp fun H1 e Q E q => ⟨l, rfl, by omega, q⟩)) ev_c rv_eqO) (rv_neX rfl))) dec_bl2) (fun hb H2 e2 => s_ret ev_c fun H3 e3 => ?_) (fun hb H2 e2 => ?_)
  · have q2 := q H3 ((e1.trans e2).trans e3)
    unfold isKindRight at q2
    rw [hb] at q2
    exact q2
  · have hd2 := e2 _ _ hd1
    refine q_when (b := ((lk.isSome || ll.isSome) && decide (kindOf l = [75]))) (et_and (et_is (et_test (ev_neD0 (ev_var rfl) hd2)) (kvL_empty lk ll)) fun _ => et_test (ev_op (ev_var rfl) (ev_lit (l := [75]) rfl) rv_eqT)) (fun hc H3 e3 => s_ret ev_c fun H4 e4 => ?_) (fun hc H3 e3 => ?_)
    · have q2 := q H4 (((e1.trans e2).trans e3).trans e4)
      unfold isKindRight at q2
      rw [hb, hc] at q2
      exact q2
    · refine s_ret (ev_orV (ev_dnotin (k := .inr "K") ev_c (ev_var rfl) (.inl (e3 _ _ hd2))) fun _ => ev_op (ev_var rfl) (ev_lit (l := [76, 49, 50]) rfl) rv_inT) fun H4 e4 => ?_
      have q2 := q H4 (((e1.trans e2).trans e3).trans e4)
      unfold isKindRight at q2
      rw [hb, hc] at q2
      rw [kvL_K]
      cases lk <;> exact q2
def spIsTargetRight : Sp := fun vs H Q _ => ∃ (l : List UInt8) (a : Addr) (lk ll : Option (List Nat)), vs = [.byt l.toArray, .ref a] ∧ l.length = 512 ∧ H a = some (.dK (kvL lk ll)) ∧ lenO lk 1000 ∧ Ret (.bl (isTargetRight l lk)) H Q
theorem sc_is_target_right : FnScope ["block", "long", "target", "kind"] ["block", "long"] (defScope (topS 61)) := ⟨rfl, rfl, rfl, by decide +kernel, rfl, by decide +kernel, by decide +kernel⟩
theorem ok_is_target_right (g : GF K mg) (D : D0 K mg "is_target_right" (topS 61)) (c_is_name : C8.Cal P w K mg base 1 "is_name" (spIsName) []) (c_kind_of : C8.Cal P w K mg base 2 "kind_of" (spKindOf) []) (c_target_of : C8.Cal P w K mg base 2 "target_of" (spTargetOf) [])  : C8.Cal P w K mg base 3 "is_target_right" (spIsTargetRight) [] := by
  refine calD D (fun _ _ _ _ _ _ us hl => match us, hl with | [_, _], _ => rfl) sc_is_target_right (fun vs H Q E h => by obtain ⟨l, a, lk, ll, rfl, hz, hd, hl, q⟩ := h; rfl) fun f cdv A outer s H vs Q E hr h => ?_
  have hu := hr.units
  have hu1 := hu_of hr
  obtain ⟨l, a, lk, ll, rfl, hz, hd, hl, q⟩ := h
  refine ⟨_, pss_cons (ps_par (i := 2) (j := 3) rfl sc_is_target_right.nd rfl rfl (by decide) rfl rfl (pa_cons (C8.pe_c c_target_of hr (by decide) rfl (pa_cons (pv 0) (pa_nil))) (pa_cons (C8.pe_c c_kind_of hr (by decide) rfl (pa_cons (pv 0) (pa_nil))) (pa_nil))) rfl)
      (pss_cons (ps_if (pt_cmpR op_niX (pv 3) (pe_str) (by with_unfolding_all rfl)) (pss_one (ps_ret (pe_cmpR (op_eqX (K := K) hu) (pv 2) (pe_str) (nomark _)))) (pss_nil))
      (pss_one (ps_ret (pe_ifExp (pt_cmp (pc_din hu1 (pe_str) (pv 1))) (pe_cmpR (op_eqX (K := K) hu) (pv 2) (pe_slice (sl_X (K := K)) (pe_dget hu1 (pv 1) (pe_str) (fun _ _ => rfl)) (po_none) (po_some (C8.pe_gc rfl g.c_MOST_SHORT))) (nomark _)) (C8.pe_c c_is_name hr (by decide) rfl (pa_cons (pv 2) (pa_nil))))))), ?_⟩
  refine EvA.go (ea_cons (ev_call (ea_cons (ev_var rfl) ea_nil) (Ret.sp fun H1 e Q E q => ⟨l, rfl, by omega, q⟩)) (ea_cons (ev_call (ea_cons (ev_var rfl) ea_nil) (Ret.sp fun H1 e Q E q => ⟨l, rfl, by omega, q⟩)) ea_nil)) fun H1 e1 => ⟨_, _, rfl, ?_⟩
  have hd1 := e1 _ _ hd
  refine q_when (b := !inT (kindOf l) [49, 50]) (et_test (ev_op (ev_var rfl) (ev_lit (l := [49, 50]) rfl) rv_niT)) (fun hb H2 e2 => s_ret (ev_op (ev_var rfl) (ev_lit (l := []) rfl) rv_eqO) fun H3 e3 => ?_) (fun hb H2 e2 => ?_)
  · have q2 := q H3 ((e1.trans e2).trans e3)
    unfold isTargetRight at q2
    rw [if_neg (by rw [Bool.not_eq_true'] at hb; rw [hb]; exact Bool.false_ne_true)] at q2
    exact q2
  · have hb2 : inT (kindOf l) [49, 50] = true := by rw [Bool.not_eq_false'] at hb; exact hb
    unfold isTargetRight at q
    rw [if_pos hb2] at q
    have hd2 := e2 _ _ hd1
    refine s_ret (v := .bl (tgtOk lk (targetOf l))) (ev_if (et_B (ev_din (k := .inr "K") ev_c (ev_var rfl) (.inl hd2))) (fun hc => ?_) (fun hc => ?_)) fun H3 e3 => q H3 ((e1.trans e2).trans e3)
    · rw [kvL_K] at hc
      cases lk with
      | none => cases hc
      | some t =>
        have hl := hl t rfl
        exact ev_op (ev_var rfl) (ev_slT (ev_dget (k := .inr "K") (ev_var rfl) ev_c (.inl hd2) (by rw [kvL_K]; rfl)) eo_none (eo_n (n := 100) ev_c) (by omega) sl_toT) rv_eqO
    · rw [kvL_K] at hc
      cases lk with
      | some t => cases hc
      | none => exact ev_call (ea_cons (ev_var rfl) ea_nil) (Ret.sp fun H1 e Q E q => ⟨targetOf l, rfl, fun x hx => by have := targetOf_len l x hx; omega, q⟩)
theorem s_ifNamed {σ : L2.St} {H : Hp} {D : Ends} {tu tw : TS} {te tb : TE} {r : R2} {i : Nat} {v y : V} {k : Bool} (h : Ev te σ H v) (hb : Ev tb (σ.set i (some v)) H y) (hr : RV r v y H (.bl k)) (h1 : k = true → ∀ H1, Ex H H1 → tu D (σ.set i (some v)) H1) (h2 : k = false → ∀ H1, Ex H H1 → tw D (σ.set i (some v)) H1) :
    tIfW (wCmp r (wNm (wE te) i) tb) tu tw D σ H := h H (Ex.refl _) _ fun H1 e1 => hb H1 e1 _ fun H2 e2 => hr H2 (e1.trans e2) _ fun H3 e3 => ⟨k, rfl, by
      cases k with
      | true =>
        show tu D _ H3
        exact h1 rfl H3 ((e1.trans e2).trans e3)
      | false =>
        show tw D _ H3
        exact h2 rfl H3 ((e1.trans e2).trans e3)⟩
theorem q_ifNamed {σ : L2.St} {H : Hp} {D : Ends} {tu tw tz : TS} {te tb : TE} {r : R2} {i : Nat} {v y : V} {k : Bool} (h : Ev te σ H v) (hb : Ev tb (σ.set i (some v)) H y) (hr : RV r v y H (.bl k)) (h1 : k = true → ∀ H1, Ex H H1 → tu { D with nx := tz D } (σ.set i (some v)) H1) (h2 : k = false → ∀ H1, Ex H H1 → tw { D with nx := tz D } (σ.set i (some v)) H1) :
    tSeq (tIfW (wCmp r (wNm (wE te) i) tb) tu tw) tz D σ H := s_ifNamed (D := { D with nx := tz D }) h hb hr h1 h2
section
variable {K : PySem.W.Frag} {w : World} {σ : L2.St} {H : Hp} {D : Ends} {tz : TS} {te td ty tx : TE}
theorem er_kget {aS : Addr} {t : Str} {o : Option V} {xs ys : List V} (h : Ev td σ H (.ref aS)) (hl : ∃ es n, K.lookup aS = some ⟨.type "dict", none, .dict es n, #[]⟩) (hy : Ev ty σ H (.str t)) (hx : EvU tx σ H xs) (hg : KGet K w aS t o)
    (ho : (o = none ∧ xs = ys) ∨ ∃ a, o = some (.ref a) ∧ ∀ H : Hp, SqT K H a ys) : Er (tKGet K w td ty tx) σ H (fun v H1 => ∃ p, v = .ref p ∧ SqT K H1 p ys) := fun H1 e Q q =>
  h H1 e _ fun H2 e2 => ⟨aS, rfl, hl, hy H2 (e.trans e2) _ fun H3 e3 => hx H3 ((e.trans e2).trans e3) _ fun p H4 _ e4 hp => ⟨t, o, rfl, hg, by
    rcases ho with ⟨rfl, rfl⟩ | ⟨a, rfl, ha⟩
    · exact q _ _ ((e2.trans e3).trans e4) ⟨p, rfl, st_of hp⟩
    · exact q _ _ ((e2.trans e3).trans e4) ⟨a, rfl, ha H4⟩⟩⟩
/-- x, y = e, e a pair -/
theorem s_asgP2 {i j : Nat} {x y : V} (h : Er te σ H (fun v H1 => ∃ p, v = .ref p ∧ SqT K H1 p [x, y])) (k : ∀ H1, Ex H H1 → D.nx ((σ.set i (some x)).set j (some y)) H1) : tAsg te (gTup K 2 (gCons (gName i) (gCons (gName j) gNil))) D σ H := h H (Ex.refl _) _ fun v H1 e hp => by
  obtain ⟨p, rfl, h1⟩ := hp
  exact ⟨p, _, rfl, h1, rfl, _, _, rfl, _, _, rfl, rfl, k H1 e⟩
theorem q_asgP2 {i j : Nat} {x y : V} (h : Er te σ H (fun v H1 => ∃ p, v = .ref p ∧ SqT K H1 p [x, y])) (k : ∀ H1, Ex H H1 → tz D ((σ.set i (some x)).set j (some y)) H1) : tSeq (tAsg te (gTup K 2 (gCons (gName i) (gCons (gName j) gNil)))) tz D σ H := s_asgP2 (D := { D with nx := tz D }) h k
end
/-- the table SIZES as it stands written -/
structure SizT (K : PySem.W.Frag) (w : World) (aS : Addr) : Prop where
  ex : ∃ es n, K.lookup aS = some ⟨.type "dict", none, .dict es n, #[]⟩
  no : ∀ t : List Nat, t.length ≤ 1 → t ≠ [48] → t ≠ [83] → t ≠ [75] → t ≠ [76] → KGet K w aS (SX.S t) none
  yes : ∃ a1 a2 a3 a4 : Addr, (∀ H : Hp, SqT K H a1 [.int 0, .int 4096] ∧ SqT K H a2 [.int 512, .int 4608] ∧ SqT K H a3 [.int 102, .int 251] ∧ SqT K H a4 [.int 102, .int 251]) ∧
    KGet K w aS (SX.S [48]) (some (.ref a1)) ∧ KGet K w aS (SX.S [83]) (some (.ref a2)) ∧ KGet K w aS (SX.S [75]) (some (.ref a3)) ∧ KGet K w aS (SX.S [76]) (some (.ref a4))
def sizeOf (t : List Nat) : Nat × Nat := if t = [48] then (0, 4096) else if t = [83] then (512, 4608) else if t = [75] then (102, 251) else if t = [76] then (102, 251) else (0, 0)
def wrongField (l : List UInt8) (lk ll : Option (List Nat)) : Option Str :=
  if isNameRight l ll = false then some "name" else match wrongNum l with
    | some f => some f
    | none => if isKindRight l lk ll = false then some "kind" else if isTargetRight l lk = false then some "target" else if sub l 257 265 ≠ magicField then some "magic" else if l.drop 265 ≠ zs 247 then some "rest" else
      if sub l 148 156 ≠ checksumField l then some "checksum" else match numAt l 3 with
        | some n => if (sizeOf (kindOf l)).1 ≤ n ∧ n ≤ (sizeOf (kindOf l)).2 then none else some "size"
        | none => none
theorem SizT.get {aS : Addr} (h : SizT K w aS) {t : List Nat} (ht : t.length ≤ 1) : ∃ o, KGet K w aS (SX.S t) o ∧ ((o = none ∧ sizeOf t = (0, 0)) ∨ ∃ a, o = some (.ref a) ∧ ∀ H : Hp, SqT K H a [.int ((sizeOf t).1 : Int), .int ((sizeOf t).2 : Int)]) := by
  obtain ⟨a1, a2, a3, a4, h0, h1, h2, h3, h4⟩ := h.yes
  by_cases e1 : t = [48]
  · subst e1; exact ⟨_, h1, .inr ⟨a1, rfl, fun H => (h0 H).1⟩⟩
  by_cases e2 : t = [83]
  · subst e2; exact ⟨_, h2, .inr ⟨a2, rfl, fun H => (h0 H).2.1⟩⟩
  by_cases e3 : t = [75]
  · subst e3; exact ⟨_, h3, .inr ⟨a3, rfl, fun H => (h0 H).2.2.1⟩⟩
  by_cases e4 : t = [76]
  · subst e4; exact ⟨_, h4, .inr ⟨a4, rfl, fun H => (h0 H).2.2.2⟩⟩
  exact ⟨none, h.no t ht e1 e2 e3 e4, .inl ⟨rfl, by unfold sizeOf; rw [if_neg e1, if_neg e2, if_neg e3, if_neg e4]⟩⟩
def spWrongField : Sp := fun vs H Q _ => ∃ (l : List UInt8) (a : Addr) (lk ll : Option (List Nat)), vs = [.byt l.toArray, .ref a] ∧ l.length = 512 ∧ H a = some (.dK (kvL lk ll)) ∧ lenO lk 1000 ∧ lenO ll 1000 ∧ Ret (oS (wrongField l lk ll)) H Q
theorem wrongNum_none {l : List UInt8} (h : wrongNum l = none) : ∀ i < 5, okNumO (numB i).1 (numAt l i) (isLL l) = true := by
  unfold wrongNum at h
  have h2 := List.find?_eq_none.mp (Option.map_eq_none_iff.mp h)
  intro i hi
  have := h2 i (List.mem_range.mpr hi)
  simpa using this
theorem numAt_some {l : List UInt8} (h : wrongNum l = none) {i : Nat} (hi : i < 5) : ∃ n, numAt l i = some n ∧ okNum (numB i).1 n (isLL l) = true := by
  have := wrongNum_none h i hi
  cases e : numAt l i with
  | none => rw [e] at this; cases this
  | some n => rw [e] at this; exact ⟨n, rfl, this⟩
theorem sc_wrong_field : FnScope ["block", "long", "field", "low", "high"] ["block", "long"] (defScope (topS 62)) := ⟨rfl, rfl, rfl, by decide +kernel, rfl, by decide +kernel, by decide +kernel⟩
theorem ok_wrong_field (g : GF K mg) (D : D0 K mg "wrong_field" (topS 62)) (c_numbers_of : C8.Cal P w K mg base 3 "numbers_of" (spNumbersOf) []) (c_kind_of : C8.Cal P w K mg base 2 "kind_of" (spKindOf) []) (c_checksum_field : C8.Cal P w K mg base 2 "checksum_field" (spChecksumField) []) (c_magic_field : C8.Cal P w K mg base 1 "magic_field" (spMagicField) []) (c_is_target_right : C8.Cal P w K mg base 3 "is_target_right" (spIsTargetRight) []) (c_is_kind_right : C8.Cal P w K mg base 3 "is_kind_right" (spIsKindRight) []) (c_wrong_number : C8.Cal P w K mg base 4 "wrong_number" (spWrongNumber) []) (c_is_name_right : C8.Cal P w K mg base 3 "is_name_right" (spIsNameRight) []) {aS : Addr} (hSIZES : GV mg "SIZES" (.ref aS)) (hT : SizT K w aS) : C8.Cal P w K mg base 5 "wrong_field" (spWrongField) [] := by
  refine calD D (fun _ _ _ _ _ _ us hl => match us, hl with | [_, _], _ => rfl) sc_wrong_field (fun vs H Q E h => by obtain ⟨l, a, lk, ll, rfl, hz, hd, hlk, hll, q⟩ := h; rfl) fun f cdv A outer s H vs Q E hr h => ?_
  have hu := hr.units
  have hu1 := hu_of hr
  obtain ⟨l, a, lk, ll, rfl, hz, hd, hlk, hll, q⟩ := h
  refine ⟨_, pss_cons (ps_if (pt_not (pt_val (C8.pe_c c_is_name_right hr (by decide) rfl (pa_cons (pv 0) (pa_cons (pv 1) (pa_nil)))))) (pss_one (ps_ret (pe_str))) (pss_nil))
      (pss_cons (ps_ifW (ptw_cmp op_notN1 (pew_named (i := 2) sc_wrong_field.nd rfl (Or.inl rfl) (pew_of (C8.pe_c c_wrong_number hr (by decide) rfl (pa_cons (pv 0) (pa_nil))))) (pe_non) (nomark _)) (pss_one (ps_ret (pv 2))) (pss_nil))
      (pss_cons (ps_if (pt_not (pt_val (C8.pe_c c_is_kind_right hr (by decide) rfl (pa_cons (pv 0) (pa_cons (pv 1) (pa_nil)))))) (pss_one (ps_ret (pe_str))) (pss_nil))
      (pss_cons (ps_if (pt_not (pt_val (C8.pe_c c_is_target_right hr (by decide) rfl (pa_cons (pv 0) (pa_cons (pv 1) (pa_nil)))))) (pss_one (ps_ret (pe_str))) (pss_nil))
      (pss_cons (ps_if (pt_cmpR (op_neX (K := K) hu) (pe_slice (sl_X (K := K)) (pv 0) (po_some (pe_int)) (po_some (pe_int))) (pe_c0 c_magic_field hr (by decide) rfl) (nomark _)) (pss_one (ps_ret (pe_str))) (pss_nil))
      (pss_cons (ps_if (pt_cmpR (op_neX (K := K) hu) (pe_slice (sl_X (K := K)) (pv 0) (po_some (pe_int)) (po_none)) (pe_callTy call_bytes_n rfl g.n_bytes bo_bytes (pa_cons (pe_int) (pa_nil))) (nomark _)) (pss_one (ps_ret (pe_str))) (pss_nil))
      (pss_cons (ps_if (pt_cmpR (op_neX (K := K) hu) (pe_slice (sl_X (K := K)) (pv 0) (po_some (pe_int)) (po_some (pe_int))) (C8.pe_c c_checksum_field hr (by decide) rfl (pa_cons (pv 0) (pa_nil))) (nomark _)) (pss_one (ps_ret (pe_str))) (pss_nil))
      (pss_cons (ps_asg (pe_kget2 (K := K) (w := w) (C8.pe_gc rfl hSIZES) (C8.pe_c c_kind_of hr (by decide) rfl (pa_cons (pv 0) (pa_nil))) (pe_tup (pa_cons (pe_int) (pa_cons (pe_int) (pa_nil)))) ⟨rfl, rfl, rfl, rfl⟩) (pg_tupK (K := K) (n := 2) rfl (pgs_cons (pg_name (i := 3) sc_wrong_field.nd rfl (Or.inl rfl)) (pgs_cons (pg_name (i := 4) sc_wrong_field.nd rfl (Or.inl rfl)) (pgs_nil)))))
      (pss_one (ps_ret (pe_ifExp (pt_chain op_le op_le (pv 3) (pe_dget hu1 (C8.pe_c c_numbers_of hr (by decide) rfl (pa_cons (pv 0) (pa_nil))) (pe_str) (fun _ _ => rfl)) (pv 4)) (pe_non) (pe_str))))))))))), ?_⟩
  unfold wrongField at q
  refine q_when (et_not (et_B (ev_call (ea_cons (ev_var rfl) (ea_cons (ev_var rfl) ea_nil)) fun H1 e Q q E => ⟨l, a, lk, ll, rfl, hz, e _ _ hd, hll, q⟩))) (fun hb H1 e1 => s_ret ev_c fun H2 e2 => ?_) (fun hb H1 e1 => ?_)
  · rw [if_pos (by simpa using hb)] at q
    exact q H2 (e1.trans e2)
  rw [if_neg (by simpa using hb)] at q
  have q1 : Ret _ H1 Q := fun H' e => q H' (e1.trans e)
  have hd1 := e1 _ _ hd
  clear q hb hd
  refine q_ifNamed (k := !decide (oS (wrongNum l) = .non)) (ev_call (ea_cons (ev_var rfl) ea_nil) (Ret.sp fun H1 e Q E q => ⟨l, rfl, hz, q⟩)) ev_c rv_notN (fun hb H2 e2 => s_ret (ev_var rfl) fun H3 e3 => ?_) (fun hb H2 e2 => ?_)
  · cases hw : wrongNum l with
    | none => rw [hw] at hb; cases hb
    | some f => rw [hw] at q1; exact q1 H3 (e2.trans e3)
  cases hw : wrongNum l with
  | some f => rw [hw] at hb; cases hb
  | none =>
  rw [hw] at q1
  have q2 : Ret _ H2 Q := fun H' e => q1 H' (e2.trans e)
  have hd2 := e2 _ _ hd1
  clear q1 hd1 hb
  refine q_when (et_not (et_B (ev_call (ea_cons (ev_var rfl) (ea_cons (ev_var rfl) ea_nil)) fun H1 e Q q E => ⟨l, a, lk, ll, rfl, hz, e _ _ hd2, q⟩))) (fun hb H3 e3 => s_ret ev_c fun H4 e4 => ?_) (fun hb H3 e3 => ?_)
  · rw [if_pos (by simpa using hb)] at q2
    exact q2 H4 (e3.trans e4)
  rw [if_neg (by simpa using hb)] at q2
  have q3 : Ret _ H3 Q := fun H' e => q2 H' (e3.trans e)
  have hd3 := e3 _ _ hd2
  clear q2 hd2 hb
  refine q_when (et_not (et_B (ev_call (ea_cons (ev_var rfl) (ea_cons (ev_var rfl) ea_nil)) fun H1 e Q q E => ⟨l, a, lk, ll, rfl, hz, e _ _ hd3, hlk, q⟩))) (fun hb H4 e4 => s_ret ev_c fun H5 e5 => ?_) (fun hb H4 e4 => ?_)
  · rw [if_pos (by simpa using hb)] at q3
    exact q3 H5 (e4.trans e5)
  rw [if_neg (by simpa using hb)] at q3
  have q4 : Ret _ H4 Q := fun H' e => q3 H' (e4.trans e)
  clear q3 hd3 hb
  refine q_when (et_test (ev_op (ev_slY (m := sub l 257 265) (ev_var rfl) (eo_n (n := 257) ev_c) (eo_n (n := 265) ev_c) (by omega) sl_gen) (ev_call ea_nil (Ret.sp fun H1 e Q E q => ⟨rfl, q⟩)) rv_neY)) (fun hb H5 e5 => s_ret ev_c fun H6 e6 => ?_) (fun hb H5 e5 => ?_)
  · rw [if_pos (by simpa using hb)] at q4
    exact q4 H6 (e5.trans e6)
  rw [if_neg (by simpa using hb)] at q4
  have q5 : Ret _ H5 Q := fun H' e => q4 H' (e5.trans e)
  clear q4 hb
  refine q_when (et_test (ev_op (ev_slY (m := l.drop 265) (ev_var rfl) (eo_n (n := 265) ev_c) eo_none (by omega) sl_from) (ev_cb1 ev_c (rc_bytNn (n := 247) (by omega))) rv_neY)) (fun hb H6 e6 => s_ret ev_c fun H7 e7 => ?_) (fun hb H6 e6 => ?_)
  · rw [if_pos (by simpa using hb)] at q5
    exact q5 H7 (e6.trans e7)
  rw [if_neg (by simpa using hb)] at q5
  have q6 : Ret _ H6 Q := fun H' e => q5 H' (e6.trans e)
  clear q5 hb
  refine q_when (et_test (ev_op (ev_slY (m := sub l 148 156) (ev_var rfl) (eo_n (n := 148) ev_c) (eo_n (n := 156) ev_c) (by omega) sl_gen) (ev_call (ea_cons (ev_var rfl) ea_nil) (Ret.sp fun H1 e Q E q => ⟨l, rfl, by omega, q⟩)) rv_neY)) (fun hb H7 e7 => s_ret ev_c fun H8 e8 => ?_) (fun hb H7 e7 => ?_)
  · rw [if_pos (by simpa using hb)] at q6
    exact q6 H8 (e7.trans e8)
  rw [if_neg (by simpa using hb)] at q6
  have q7 : Ret _ H7 Q := fun H' e => q6 H' (e7.trans e)
  clear q6 hb
  obtain ⟨n, hn, _⟩ := numAt_some hw (i := 3) (by decide)
  rw [hn] at q7
  -- low, high = SIZES.get(kind_of(block), (0, 0))
  obtain ⟨o, hg, ho⟩ := hT.get (kindOf_len l)
  obtain ⟨es, nn, hl⟩ := hT.ex
  refine q_asgP2 (er_kget (xs := [.int ((0 : Nat) : Int), .int ((0 : Nat) : Int)]) (ys := [.int ((sizeOf (kindOf l)).1 : Int), .int ((sizeOf (kindOf l)).2 : Int)]) ev_c ⟨es, nn, hl⟩ (ev_call (ea_cons (ev_var rfl) ea_nil) (Ret.sp fun H1 e Q E q => ⟨l, rfl, by omega, q⟩)) (eu_tup (ea_cons ev_c (ea_cons ev_c ea_nil)) (by decide)) hg ?_) fun H8 e8 => ?_
  · rcases ho with ⟨rfl, e⟩ | h
    · exact .inl ⟨rfl, by rw [e]⟩
    · exact .inr h
  refine s_ret (v := oS (if (sizeOf (kindOf l)).1 ≤ n ∧ n ≤ (sizeOf (kindOf l)).2 then none else some "size")) (ev_if (et_test (ev_chain (ev_var rfl) (ev_dgetR (R := fun _ _ => True) (k := .inr "size") (er_numbers (ea_cons (ev_var rfl) ea_nil) hz) (fun _ _ => ev_c) (show valV (numK l) (.inr "size") = some (.int (n : Int)) from by show some (oI (numAt l 3)) = _; rw [hn]; rfl)) rv_le fun _ => ⟨_, ev_var rfl, rv_le⟩)) (fun hb => ?_) (fun hb => ?_)) fun H9 e9 => q7 H9 (e8.trans e9)
  · rw [if_pos (by simp at hb; omega)]
    exact ev_c
  · rw [if_neg (by simp at hb; omega)]
    exact ev_c
end
end Tar

/-! TaN -/
set_option Elab.async false
set_option linter.all false
set_option maxRecDepth 100000
set_option maxHeartbeats 4000000
/-! lists and tuples of pairs: loops, comprehensions -/
namespace Tar
open PySem PySem.Spec PyProof.Rows L2 Evl
/-- a list | a tuple of pairs -/
def PrI (K : PySem.W.Frag) (H : Hp) (as : List Addr) (ps : List (V × V)) : Prop := as.length = ps.length ∧ ∀ (i : Nat) (p : Addr) (z : V × V), as[i]? = some p → ps[i]? = some z → SqT K H p [z.1, z.2]
def PrL (K : PySem.W.Frag) (H : Hp) (a : Addr) (ps : List (V × V)) : Prop := ∃ as : List Addr, SqL K H a (as.map V.ref) ∧ PrI K H as ps
def PrU (K : PySem.W.Frag) (H : Hp) (a : Addr) (ps : List (V × V)) : Prop := ∃ as : List Addr, SqT K H a (as.map V.ref) ∧ PrI K H as ps
section
variable {K : PySem.W.Frag} {H H' : Hp} {a : Addr} {as : List Addr} {ps : List (V × V)}
theorem PrI.ex (e : Ex H H') (h : PrI K H as ps) : PrI K H' as ps := ⟨h.1, fun i p z h1 h2 => ex_t e (h.2 i p z h1 h2)⟩
theorem PrL.ex (e : Ex H H') (h : PrL K H a ps) : PrL K H' a ps := let ⟨as, h1, h2⟩ := h; ⟨as, ex_l e h1, h2.ex e⟩
theorem PrU.ex (e : Ex H H') (h : PrU K H a ps) : PrU K H' a ps := let ⟨as, h1, h2⟩ := h; ⟨as, ex_t e h1, h2.ex e⟩
theorem PrI.get (h : PrI K H as ps) {i : Nat} {x : V} (hx : (as.map V.ref)[i]? = some x) : ∃ p z, x = .ref p ∧ ps[i]? = some z ∧ SqT K H p [z.1, z.2] := by
  rw [List.getElem?_map] at hx
  obtain ⟨p, hp, rfl⟩ := Option.map_eq_some_iff.mp hx
  have hi : i < ps.length := by have := (List.getElem?_eq_some_iff.mp hp).1; rw [← h.1]; exact this
  exact ⟨p, ps[i], rfl, List.getElem?_eq_getElem hi, h.2 i p _ hp (List.getElem?_eq_getElem hi)⟩
end
section
variable {K : PySem.W.Frag} {σ : L2.St} {H : Hp} {D : Ends} {tu tz : TS} {tl te : TE} {a : Addr} {ps : List (V × V)} {j k : Nat}
theorem s_forPr (h : Ev tl σ H (.ref a)) (hx : PrL K H a ps) (Pv : Nat → L2.St → Prop) (h0 : Pv 0 σ)
    (hs : ∀ i z σ' H' (N : L2.St → Hp → Prop), ps[i]? = some z → Ex H H' → Pv i σ' → (∀ σ2 H2, Ex H' H2 → Pv (i + 1) σ2 → N σ2 H2) → tu { D with nx := N, ct := N, bk := D.nx } ((σ'.set j (some z.1)).set k (some z.2)) H')
    (hd : ∀ σ' H', Ex H H' → Pv ps.length σ' → D.nx σ' H') : tFor (iList K tl) (gTup K 2 (gCons (gName j) (gCons (gName k) gNil))) tu D σ H := by
  obtain ⟨as, hs1, hp⟩ := hx
  refine s_forL h hs1 (fun i σ' H' => Ex H H' ∧ Pv i σ') (fun H1 e => ⟨e, h0⟩) (fun i σ' H' _ p => ex_l p.1 hs1) (fun i x σ' H' hi p => ?_) (fun σ' H' p => ?_)
  · obtain ⟨q, z, rfl, hz, ht⟩ := hp.get hi
    exact ⟨q, _, rfl, ex_t p.1 ht, rfl, _, _, rfl, _, _, rfl, rfl, hs i z σ' H' _ hz p.1 p.2 fun σ2 H2 e pv => ⟨p.1.trans e, pv⟩⟩
  · rw [List.length_map, hp.1] at p
    exact hd σ' H' p.1 p.2
theorem q_forPr (h : Ev tl σ H (.ref a)) (hx : PrL K H a ps) (Pv : Nat → L2.St → Prop) (h0 : Pv 0 σ)
    (hs : ∀ i z σ' H' (N : L2.St → Hp → Prop), ps[i]? = some z → Ex H H' → Pv i σ' → (∀ σ2 H2, Ex H' H2 → Pv (i + 1) σ2 → N σ2 H2) → tu { D with nx := N, ct := N, bk := tz D } ((σ'.set j (some z.1)).set k (some z.2)) H')
    (hd : ∀ σ' H', Ex H H' → Pv ps.length σ' → tz D σ' H') : tSeq (tFor (iList K tl) (gTup K 2 (gCons (gName j) (gCons (gName k) gNil))) tu) tz D σ H := s_forPr (D := { D with nx := tz D }) h hx Pv h0 hs hd
end
/-- the tuples of a heap -/
def tv (H : Hp) : Hp := fun p => match H p with
  | some (.tup xs) => some (.tup xs)
  | _ => none
theorem tv_at {H : Hp} {p : Addr} {xs : List V} (h : H p = some (.tup xs)) : tv H p = some (.tup xs) := by
  unfold tv
  rw [h]
theorem tv_of {H : Hp} {p : Addr} {o : HO} (h : tv H p = some o) : H p = some o ∧ ∃ xs, o = .tup xs := by
  unfold tv at h
  split at h
  · rename_i xs e
    cases h
    exact ⟨e, xs, rfl⟩
  · cases h
theorem tv_ex {H H' : Hp} (e : Ex H H') : Ex (tv H) (tv H') := fun a o h => by
  obtain ⟨h1, xs, rfl⟩ := tv_of h
  exact tv_at (e _ _ h1)
theorem tv_le (H : Hp) : Ex (tv H) H := fun a o h => (tv_of h).1
theorem tv_upd {H : Hp} {p : Addr} {xs ys : List V} (h : H p = some (.lst xs)) : tv (upd H p (.lst ys)) = tv H := funext fun a => by
  by_cases e : a = p
  · subst e
    unfold tv
    rw [upd_same, h]
  · unfold tv
    rw [upd_ne e]
theorem sqT_tv {K : PySem.W.Frag} {H : Hp} {p : Addr} {xs : List V} (h : SqT K (tv H) p xs) : SqT K H p xs := ex_t (tv_le H) h
section
variable {K : PySem.W.Frag} {σ : L2.St} {H : Hp} {te : TE}
/-- a new list, its items told -/
def ErL (te : TE) (σ : L2.St) (H : Hp) (R : List V → Hp → Prop) : Prop := ∀ H1, Ex H H1 → ∀ Q : VK, (∀ p xs H2, H1 p = none → Ex H1 H2 → H2 p = some (.lst xs) → R xs H2 → Q (.ref p) H2) → te σ H1 Q
def Itm (n : Nat) (Re : Nat → V → Hp → Prop) (xs : List V) (H : Hp) : Prop := xs.length = n ∧ ∀ i x, xs[i]? = some x → Re i x (tv H)
theorem ErL.er {R : List V → Hp → Prop} {R2 : V → Hp → Prop} (h : ErL te σ H R) (k : ∀ p xs H1, H p = none → Ex H H1 → H1 p = some (.lst xs) → R xs H1 → R2 (.ref p) H1) : Er te σ H R2 := fun H1 e Q q => h H1 e Q fun p xs H2 hp e2 h2 r => q _ H2 e2 (k p xs H2 (fresh_back e hp) (e.trans e2) h2 r)
theorem ErL.evl {R : List V → Hp → Prop} {ys : List V} (h : ErL te σ H R) (k : ∀ xs H1, R xs H1 → xs = ys) : EvL te σ H ys := fun H1 e Q q => h H1 e Q fun p xs H2 hp e2 h2 r => q p H2 hp e2 (by rw [← k xs H2 r]; exact h2)
/-- a comprehension, told turn by turn -/
theorem er_lcP {J : It} {n : Nat} {G : Hp → Prop} {Y : Nat → Hp → V → Hp → Prop} {wi : TI} {g : TG} {vs : List Nat} (sg : Nat → L2.St) (Re : Nat → V → Hp → Prop) (wk : Walk J n G Y) (st : ∀ i, Sta (Re i)) (hz : n ≤ 90000)
    (h : ∀ H1, Ex H H1 → ∀ Rr : It → Hp → Prop, (∀ H2, Ex H1 H2 → Rr J H2) → wi σ H1 Rr) (hG : ∀ H1, Ex H H1 → G H1) (hg : ∀ i x H1 H2 (Qc : L2.St → Hp → Prop), i < n → Ex H H1 → Y i H1 x H2 → (∀ H3, Ex H1 H3 → Qc (sg i) H3) → g x (wipe σ vs) H2 Qc)
    (hw : ∀ i, i < n → wipe (sg i) vs = wipe σ vs) (he : ∀ i, i < n → Er te (sg i) H (fun v H' => Re i v (tv H'))) :
    ErL (tLc wi g tYes te vs) σ H (Itm n Re) := fun H0 e Q q =>
  h H0 e _ fun H1 e1 Dl hD => lc_it wk (fun i H' => H1 Dl = none ∧ Ex H1 H' ∧ ∃ xs, H' Dl = some (.lst xs) ∧ xs.length = i ∧ ∀ m x, xs[m]? = some x → Re m x (tv H')) ⟨hD, Ex.new hD, [], upd_same, rfl, fun m x hm => by simp at hm⟩ (fun i H' _ p => hG H' ((e.trans e1).trans p.2.1)) (fun i x Ha Hb hi p y => by
    obtain ⟨p1, p2, xs, p3, p4, p5⟩ := p
    refine hg i x Ha Hb _ hi ((e.trans e1).trans p2) y fun H3 e3 => ⟨hw i hi, ?_⟩
    show te (sg i) H3 _
    refine he i hi H3 (((e.trans e1).trans p2).trans e3) _ fun z H4 e4 rz => ?_
    have h4 := e4 _ _ (e3 _ _ p3)
    refine ⟨xs, h4, sz_lt (by omega), p1, Ex.mut ((p2.trans e3).trans e4) p1, xs ++ [z], upd_same, by rw [List.length_append, p4]; rfl, fun m u hm => ?_⟩
    rw [tv_upd h4]
    by_cases hm2 : m < xs.length
    · rw [List.getElem?_append_left hm2] at hm
      exact st m u _ _ (tv_ex (e3.trans e4)) (p5 m u hm)
    · rw [List.getElem?_append_right (by omega)] at hm
      have h0 : m - xs.length = 0 := by
        have := (List.getElem?_eq_some_iff.mp hm).1
        simp at this
        omega
      rw [h0] at hm
      have e5 : z = u := Option.some.inj hm
      have e6 : m = i := by omega
      rw [← e5, e6]
      exact rz) (fun H' p => by
    obtain ⟨p1, p2, xs, p3, p4, p5⟩ := p
    exact q Dl xs H' (fresh_back e1 p1) (e1.trans p2) p3 ⟨p4, p5⟩)
/-- over a list | a tuple of pairs -/
theorem er_lcPrL {a : Addr} {ps : List (V × V)} {tl : TE} {j k : Nat} {vs : List Nat} (Re : Nat → V → Hp → Prop) (st : ∀ i, Sta (Re i)) (h : Ev tl σ H (.ref a)) (hx : PrL K H a ps) (hz : ps.length ≤ 90000)
    (hw : ∀ x y, wipe (((wipe σ vs).set j (some x)).set k (some y)) vs = wipe σ vs) (he : ∀ i z, ps[i]? = some z → Er te (((wipe σ vs).set j (some z.1)).set k (some z.2)) H (fun v H' => Re i v (tv H'))) :
    ErL (tLc (iList K tl) (gTup K 2 (gCons (gName j) (gCons (gName k) gNil))) tYes te vs) σ H (Itm ps.length Re) := by
  obtain ⟨as, hs1, hp⟩ := hx
  have hl : (as.map V.ref).length = ps.length := by rw [List.length_map]; exact hp.1
  rw [← hl]
  refine er_lcP (fun i => ((wipe σ vs).set j (some (ps.getD i (.non, .non)).1)).set k (some (ps.getD i (.non, .non)).2)) Re walk_list st (by omega) (fun H1 e Rr q => h H1 e _ fun H2 e2 => ⟨a, rfl, ⟨_, ex_l (e.trans e2) hs1⟩, q H2 e2⟩) (fun H1 e => ex_l e hs1) (fun i x H1 H2 Qc hi e y q => ?_) (fun i _ => hw _ _) (fun i hi => ?_)
  · obtain ⟨rfl, hx⟩ := y
    obtain ⟨p, z, rfl, hz2, ht⟩ := hp.get hx
    refine ⟨p, _, rfl, ex_t e ht, rfl, _, _, rfl, _, _, rfl, rfl, ?_⟩
    have := q _ (Ex.refl _)
    rw [List.getD_eq_getElem?_getD, hz2] at this
    exact this
  · have hi2 : i < ps.length := by omega
    have hz2 : ps[i]? = some ps[i] := List.getElem?_eq_getElem hi2
    rw [List.getD_eq_getElem?_getD, hz2]
    exact he i _ hz2
theorem er_lcPrU {a : Addr} {ps : List (V × V)} {tl : TE} {j k : Nat} {vs : List Nat} (Re : Nat → V → Hp → Prop) (st : ∀ i, Sta (Re i)) (h : Ev tl σ H (.ref a)) (hx : PrU K H a ps) (hz : ps.length ≤ 90000)
    (hw : ∀ x y, wipe (((wipe σ vs).set j (some x)).set k (some y)) vs = wipe σ vs) (he : ∀ i z, ps[i]? = some z → Er te (((wipe σ vs).set j (some z.1)).set k (some z.2)) H (fun v H' => Re i v (tv H'))) :
    ErL (tLc (iTup K tl) (gTup K 2 (gCons (gName j) (gCons (gName k) gNil))) tYes te vs) σ H (Itm ps.length Re) := by
  obtain ⟨as, hs1, hp⟩ := hx
  have hl : (as.map V.ref).length = ps.length := by rw [List.length_map]; exact hp.1
  rw [← hl]
  refine er_lcP (fun i => ((wipe σ vs).set j (some (ps.getD i (.non, .non)).1)).set k (some (ps.getD i (.non, .non)).2)) Re walk_tup st (by omega) (fun H1 e Rr q => h H1 e _ fun H2 e2 => ⟨a, rfl, ⟨_, ex_t (e.trans e2) hs1⟩, q H2 e2⟩) (fun H1 e => ex_t e hs1) (fun i x H1 H2 Qc hi e y q => ?_) (fun i _ => hw _ _) (fun i hi => ?_)
  · obtain ⟨rfl, hx⟩ := y
    obtain ⟨p, z, rfl, hz2, ht⟩ := hp.get hx
    refine ⟨p, _, rfl, ex_t e ht, rfl, _, _, rfl, _, _, rfl, rfl, ?_⟩
    have := q _ (Ex.refl _)
    rw [List.getD_eq_getElem?_getD, hz2] at this
    exact this
  · have hi2 : i < ps.length := by omega
    have hz2 : ps[i]? = some ps[i] := List.getElem?_eq_getElem hi2
    rw [List.getD_eq_getElem?_getD, hz2]
    exact he i _ hz2
theorem itm_eq {n : Nat} {f : Nat → V} {xs : List V} {H : Hp} (h : Itm n (fun i x _ => x = f i) xs H) : xs = (List.range n).map f := by
  obtain ⟨hl, hv⟩ := h
  apply List.ext_getElem?
  intro i
  by_cases hi : i < n
  · rw [List.getElem?_eq_getElem (by omega), List.getElem?_map, List.getElem?_range hi]
    exact congrArg some (hv i _ (List.getElem?_eq_getElem (by omega)))
  · rw [List.getElem?_eq_none (by omega), List.getElem?_eq_none (by simp; omega)]
/-- the items values -/
theorem el_lcPrL {a : Addr} {ps : List (V × V)} {tl : TE} {j k : Nat} {vs : List Nat} (f : V × V → V) (h : Ev tl σ H (.ref a)) (hx : PrL K H a ps) (hz : ps.length ≤ 90000)
    (hw : ∀ x y, wipe (((wipe σ vs).set j (some x)).set k (some y)) vs = wipe σ vs) (he : ∀ z ∈ ps, Ev te (((wipe σ vs).set j (some z.1)).set k (some z.2)) H (f z)) : EvL (tLc (iList K tl) (gTup K 2 (gCons (gName j) (gCons (gName k) gNil))) tYes te vs) σ H (ps.map f) := by
  refine (er_lcPrL (fun i x _ => x = f (ps.getD i (.non, .non))) (fun _ _ _ _ _ h => h) h hx hz hw fun i z hz2 => Er.of (he z (List.mem_of_getElem? hz2)) fun _ _ => by rw [List.getD_eq_getElem?_getD, hz2]; rfl).evl fun xs H1 r => ?_
  rw [itm_eq r, map_range_getD]
theorem el_lcPrU {a : Addr} {ps : List (V × V)} {tl : TE} {j k : Nat} {vs : List Nat} (f : V × V → V) (h : Ev tl σ H (.ref a)) (hx : PrU K H a ps) (hz : ps.length ≤ 90000)
    (hw : ∀ x y, wipe (((wipe σ vs).set j (some x)).set k (some y)) vs = wipe σ vs) (he : ∀ z ∈ ps, Ev te (((wipe σ vs).set j (some z.1)).set k (some z.2)) H (f z)) : EvL (tLc (iTup K tl) (gTup K 2 (gCons (gName j) (gCons (gName k) gNil))) tYes te vs) σ H (ps.map f) := by
  refine (er_lcPrU (fun i x _ => x = f (ps.getD i (.non, .non))) (fun _ _ _ _ _ h => h) h hx hz hw fun i z hz2 => Er.of (he z (List.mem_of_getElem? hz2)) fun _ _ => by rw [List.getD_eq_getElem?_getD, hz2]; rfl).evl fun xs H1 r => ?_
  rw [itm_eq r, map_range_getD]
/-- the items new pairs -/
def TupR (x y : V) : V → Hp → Prop := fun v H => ∃ p, v = .ref p ∧ H p = some (.tup [x, y])
theorem tupR_sta (x y : V) : Sta (TupR x y) := fun v H H' e h => let ⟨p, h1, h2⟩ := h; ⟨p, h1, e _ _ h2⟩
theorem itm_pr {n : Nat} {f : Nat → V × V} {xs : List V} {H : Hp} (h : Itm n (fun i => TupR (f i).1 (f i).2) xs H) : ∃ as : List Addr, xs = as.map V.ref ∧ PrI K H as ((List.range n).map f) := by
  obtain ⟨hl, hv⟩ := h
  refine ⟨xs.map fun x => match x with | .ref p => p | _ => 0, ?_, ?_, fun i p z hp hz => ?_⟩
  · apply List.ext_getElem?
    intro i
    rw [List.getElem?_map, List.getElem?_map]
    cases hx : xs[i]? with
    | none => rfl
    | some x =>
      obtain ⟨p, rfl, _⟩ := hv i x hx
      rfl
  · simp [hl]
  · rw [List.getElem?_map] at hp hz
    obtain ⟨x, hx, rfl⟩ := Option.map_eq_some_iff.mp hp
    obtain ⟨m, hm, rfl⟩ := Option.map_eq_some_iff.mp hz
    obtain ⟨q, rfl, hq⟩ := hv i x hx
    have e : m = i := by
      by_cases hi : i < n
      · rw [List.getElem?_range hi] at hm
        exact (Option.some.inj hm).symm
      · rw [List.getElem?_eq_none (by simp; omega)] at hm
        cases hm
    rw [e]
    exact st_of (tv_of hq).1
theorem range_map {α : Type} (ps : List α) (d : α) (f : α → V) : (List.range ps.length).map (fun i => f (ps.getD i d)) = ps.map f := map_range_getD ps d f
end
end Tar

/-! TaP9 -/
set_option Elab.async false
set_option linter.all false
set_option maxRecDepth 100000
set_option maxHeartbeats 4000000
/-! defs, 9: troubles, spans, pieces -/
namespace Tar
open PySem PySem.Spec PyProof.Rows L2 Evl
/-- (None, n, (s, n, ..)) -/
def BadR (K : PySem.W.Frag) (n : Nat) : V → Hp → Prop := fun v H => ∃ p q s xs, v = .ref p ∧ SqT K H p [.non, .int (n : Int), .ref q] ∧ SqT K H q (s :: .int (n : Int) :: xs)
theorem badR_sta (K : PySem.W.Frag) (n : Nat) : Sta (BadR K n) := fun v H H' e ⟨p, q, s, xs, h1, h2, h3⟩ => ⟨p, q, s, xs, h1, ex_t e h2, ex_t e h3⟩
section
variable {P : Program} {w : World} {K : PySem.W.Frag} {mg : Str → Option Value} {base : Heap}
def spWrong (K : PySem.W.Frag) : Sp := fun vs H Q _ => ∃ (n : Nat) (f : V), vs = [.int (n : Int), f] ∧ ∀ v H', Ex H H' → BadR K n v H' → Q v H'
theorem ea_consU {σ : L2.St} {H : Hp} {te : TE} {tr : TA} {xs : List V} {Q : List V → Hp → Prop} (h : EvU te σ H xs) (hr : ∀ p H1, H p = none → Ex H H1 → H1 p = some (.tup xs) → tr σ H1 fun vs H2 => Q (.ref p :: vs) H2) : tCons te tr σ H Q := h H (Ex.refl _) _ fun p H1 hp e h1 => hr p H1 hp e h1
theorem sc_wrong : FnScope ["offset", "field"] ["offset", "field"] (defScope (topS 76)) := ⟨rfl, rfl, rfl, by decide +kernel, rfl, by decide +kernel, by decide +kernel⟩
theorem ok_wrong (g : GF K mg) (D : D0 K mg "wrong" (topS 76))   : C8.Cal P w K mg base 1 "wrong" (spWrong K) [] := by
  refine calD D (fun _ _ _ _ _ _ us hl => match us, hl with | [_, _], _ => rfl) sc_wrong (fun vs H Q E h => by obtain ⟨n, f0, rfl, q⟩ := h; rfl) fun f cdv A outer s H vs Q E hr h => ?_
  have hu := hr.units
  have hu1 := hu_of hr
  obtain ⟨n, f0, rfl, q⟩ := h
  refine ⟨_, pss_one (ps_ret (pe_tup (pa_cons (pe_non) (pa_cons (pv 0) (pa_cons (pe_tup (pa_cons (pe_str) (pa_cons (pv 0) (pa_cons (pv 1) (pa_nil))))) (pa_nil)))))), ?_⟩
  refine ⟨_, rfl, ?_⟩
  refine ea_consU (eu_tup (ea_cons ev_c (ea_cons (ev_var rfl) (ea_cons (ev_var rfl) ea_nil))) (by simp)) fun p H1 hp e1 h1 => ⟨sz_of (by simp), fun p2 hp2 => ?_⟩
  exact q _ _ (e1.trans (Ex.new hp2)) ⟨p2, p, _, _, rfl, st_of upd_same, st_of ((Ex.new hp2) _ _ h1)⟩
def spTorn (K : PySem.W.Frag) : Sp := fun vs H Q _ => ∃ (n : Nat), vs = [.int (n : Int)] ∧ ∀ v H', Ex H H' → BadR K n v H' → Q v H'
theorem sc_torn : FnScope ["offset"] ["offset"] (defScope (topS 77)) := ⟨rfl, rfl, rfl, by decide +kernel, rfl, by decide +kernel, by decide +kernel⟩
theorem ok_torn (g : GF K mg) (D : D0 K mg "torn" (topS 77))   : C8.Cal P w K mg base 1 "torn" (spTorn K) [] := by
  refine calD D (fun _ _ _ _ _ _ us hl => match us, hl with | [_], _ => rfl) sc_torn (fun vs H Q E h => by obtain ⟨n, rfl, q⟩ := h; rfl) fun f cdv A outer s H vs Q E hr h => ?_
  have hu := hr.units
  have hu1 := hu_of hr
  obtain ⟨n, rfl, q⟩ := h
  refine ⟨_, pss_one (ps_ret (pe_tup (pa_cons (pe_non) (pa_cons (pv 0) (pa_cons (pe_tup (pa_cons (pe_str) (pa_cons (pv 0) (pa_nil)))) (pa_nil)))))), ?_⟩
  refine ⟨_, rfl, ?_⟩
  refine ea_consU (eu_tup (ea_cons ev_c (ea_cons (ev_var rfl) ea_nil)) (by simp)) fun p H1 hp e1 h1 => ⟨sz_of (by simp), fun p2 hp2 => ?_⟩
  exact q _ _ (e1.trans (Ex.new hp2)) ⟨p2, p, _, _, rfl, st_of upd_same, st_of ((Ex.new hp2) _ _ h1)⟩
/-- the end of spans in a row -/
def spansFrom (e : Int) : List (Int × Int) → Option Int
  | [] => some e
  | s :: r => if s.1 ≤ e ∨ s.2 < 1 then none else spansFrom (s.1 + s.2) r
def areSpans (size : Int) (ss : List (Int × Int)) : Bool := match spansFrom (-1) ss with
  | none => false
  | some e => decide (e ≤ size) && decide (ss.length ≤ 50)
theorem spansFrom_app (a b : List (Int × Int)) : ∀ e, spansFrom e (a ++ b) = (spansFrom e a).bind fun e2 => spansFrom e2 b := by
  induction a with
  | nil => intro e; rfl
  | cons s r ih =>
    intro e
    rw [List.cons_append]
    show (if s.1 ≤ e ∨ s.2 < 1 then none else spansFrom (s.1 + s.2) (r ++ b)) = ((if s.1 ≤ e ∨ s.2 < 1 then none else spansFrom (s.1 + s.2) r).bind fun e2 => spansFrom e2 b)
    split
    · rfl
    · exact ih _
def iPr (ss : List (Int × Int)) : List (V × V) := ss.map fun s => (.int s.1, .int s.2)
def spAreSpans (K : PySem.W.Frag) : Sp := fun vs H Q _ => ∃ (n : Int) (a : Addr) (ss : List (Int × Int)), vs = [.int n, .ref a] ∧ PrL K H a (iPr ss) ∧ Ret (.bl (areSpans n ss)) H Q
theorem iPr_at {ss : List (Int × Int)} {i : Nat} {z : V × V} (h : (iPr ss)[i]? = some z) : ∃ s, ss[i]? = some s ∧ z = (.int s.1, .int s.2) := by
  unfold iPr at h
  rw [List.getElem?_map] at h
  obtain ⟨s, h1, h2⟩ := Option.map_eq_some_iff.mp h
  exact ⟨s, h1, h2.symm⟩
theorem iPr_len (ss : List (Int × Int)) : (iPr ss).length = ss.length := by simp [iPr]
theorem take_snoc {α : Type} {l : List α} {i : Nat} {x : α} (h : l[i]? = some x) : l.take (i + 1) = l.take i ++ [x] := by rw [List.take_add_one, h]; rfl
theorem sc_are_spans : FnScope ["size", "spans", "end", "offset", "length"] ["size", "spans"] (defScope (topS 30)) := ⟨rfl, rfl, rfl, by decide +kernel, rfl, by decide +kernel, by decide +kernel⟩
theorem ok_are_spans (g : GF K mg) (D : D0 K mg "are_spans" (topS 30))   : C8.Cal P w K mg base 1 "are_spans" (spAreSpans K) [] := by
  refine calD D (fun _ _ _ _ _ _ us hl => match us, hl with | [_, _], _ => rfl) sc_are_spans (fun vs H Q E h => by obtain ⟨n, a, ss, rfl, hp, q⟩ := h; rfl) fun f cdv A outer s H vs Q E hr h => ?_
  have hu := hr.units
  have hu1 := hu_of hr
  obtain ⟨n, a, ss, rfl, hp, q⟩ := h
  refine ⟨_, pss_cons (ps_set (i := 2) sc_are_spans.nd rfl (Or.inl rfl) (pe_un un_neg pe_int))
      (pss_cons (ps_for PassesOwn.never rfl (pi_listK (K := K) (pv 1)) (pg_tupK (K := K) (n := 2) rfl (pgs_cons (pg_name (i := 3) sc_are_spans.nd rfl (Or.inl rfl)) (pgs_cons (pg_name (i := 4) sc_are_spans.nd rfl (Or.inl rfl)) (pgs_nil))))
      (pss_cons (ps_if (PW.pt (pw_or (pt_cmpR op_le (pv 3) (pv 2) (nomark _)) (pw_or1 (pt_cmpR op_lt (pv 4) (pe_int) (nomark _))))) (pss_one (ps_ret (pe_bl))) (pss_nil))
      (pss_one (ps_set (i := 2) sc_are_spans.nd rfl (Or.inl rfl) (pe_op op_addX (pv 3) (pv 4))))))
      (pss_one (ps_ret (pe_and (pe_cmpR op_le (pv 2) (pv 0) (nomark _)) (pe_one (pe_cmpR op_le (pe_callB (cr_lenX (K := K)) rfl g.n_len bo_len (pa_cons (pv 1) (pa_nil))) (C8.pe_gc rfl g.c_MOST_PIECES) (nomark _))))))), ?_⟩
  refine q_asg (v := .int (-1)) (ev_un ev_c ru_neg) fun H1 e1 => ?_
  refine q_forPr (ev_var rfl) (hp.ex e1) (fun i σ' => ∃ e x y, σ' = [some (.int n), some (.ref a), some (.int e), x, y] ∧ spansFrom (-1) (ss.take i) = some e) ⟨-1, none, none, rfl, rfl⟩ (fun i z σ' H' N hz e2 pv hN => ?_) (fun σ' H' e2 pv => ?_)
  · obtain ⟨e, x, y, rfl, he⟩ := pv
    obtain ⟨s, hs, rfl⟩ := iPr_at hz
    have hstep : spansFrom (-1) (ss.take (i + 1)) = if s.1 ≤ e ∨ s.2 < 1 then none else some (s.1 + s.2) := by
      rw [take_snoc hs, spansFrom_app, he]
      show spansFrom e [s] = _
      unfold spansFrom
      rfl
    refine q_when (et_or (et_test (ev_op (ev_var rfl) (ev_var rfl) rv_le)) fun _ => et_test (ev_op (ev_var rfl) ev_c rv_lt)) (fun hb H3 e3 => s_ret ev_c fun H4 e4 => ?_) (fun hb H3 e3 => s_asg (ev_op (ev_var rfl) (ev_var rfl) rv_addI) fun H4 e4 => hN _ _ (e3.trans e4) ⟨_, _, _, rfl, ?_⟩)
    · have hbad : areSpans n ss = false := by
        unfold areSpans
        have : spansFrom (-1) ss = none := by
          rw [← List.take_append_drop (i + 1) ss, spansFrom_app, hstep, if_pos (by simpa using hb)]
          rfl
        rw [this]
      have q2 := q H4 (((e1.trans e2).trans e3).trans e4)
      rw [hbad] at q2
      exact q2
    · rw [hstep, if_neg (by simpa using hb)]
  · obtain ⟨e, x, y, rfl, he⟩ := pv
    rw [iPr_len, List.take_length] at he
    obtain ⟨as, hs1, hp2⟩ := hp
    have hl : (as.map V.ref).length = ss.length := by rw [List.length_map, hp2.1, iPr_len]
    refine s_ret (ev_andV (ev_op (ev_var rfl) (ev_var rfl) rv_le) fun _ => ev_op (ev_cb1 (ev_var rfl) (rc_lenL (ex_l (e1.trans e2) hs1))) ev_c rv_le) fun H4 e4 => ?_
    have q2 := q H4 ((e1.trans e2).trans e4)
    unfold areSpans at q2
    rw [he] at q2
    have e5 : decide (((as.map V.ref).length : Int) ≤ 50) = decide (ss.length ≤ 50) := by rw [decide_eq_decide, hl]; omega
    rw [e5]
    exact q2
def spIsPiece (K : PySem.W.Frag) : Sp := fun vs H Q _ => ∃ (a : Addr) (i : Int) (l : List UInt8), vs = [.ref a] ∧ H a = some (.tup [.int i, .byt l.toArray]) ∧ l.length ≤ 16777216 ∧ Ret (.bl (decide (0 < l.length))) H Q
theorem kt1 : kitB "tuple" "tuple" = some true := by decide +kernel
theorem ev_ixT {σ : L2.St} {H : Hp} {ta tb : TE} {p : Addr} {xs : List V} {i : Int} {v : V} (ha : Ev ta σ H (.ref p)) (hb : Ev tb σ H (.int i)) (h : SqT K H p xs) (hv : atI xs i = some v) : Ev (tOp (rIx K) ta tb) σ H v := ev_op ha hb fun H1 e Q q => .inr (.inl ⟨p, xs, i, v, rfl, rfl, ex_t e h, hv, q H1 (Ex.refl _)⟩)
theorem ev_ixL {σ : L2.St} {H : Hp} {ta tb : TE} {p : Addr} {xs : List V} {i : Int} {v : V} (ha : Ev ta σ H (.ref p)) (hb : Ev tb σ H (.int i)) (h : SqL K H p xs) (hv : atI xs i = some v) : Ev (tOp (rIx K) ta tb) σ H v := ev_op ha hb fun H1 e Q q => .inl ⟨p, xs, i, v, rfl, rfl, ex_l e h, hv, q H1 (Ex.refl _)⟩
theorem sc_is_piece : FnScope ["thing"] ["thing"] (defScope (topS 29)) := ⟨rfl, rfl, rfl, by decide +kernel, rfl, by decide +kernel, by decide +kernel⟩
theorem ok_is_piece (g : GF K mg) (D : D0 K mg "is_piece" (topS 29)) (c_is_integer : C8.Cal P w K mg base 1 "is_integer" (spIsInteger) [])  : C8.Cal P w K mg base 2 "is_piece" (spIsPiece K) [] := by
  refine calD D (fun _ _ _ _ _ _ us hl => match us, hl with | [_], _ => rfl) sc_is_piece (fun vs H Q E h => by obtain ⟨a, i, l, rfl, hp, hz, q⟩ := h; rfl) fun f cdv A outer s H vs Q E hr h => ?_
  have hu := hr.units
  have hu1 := hu_of hr
  obtain ⟨a, i, l, rfl, hp, hz, q⟩ := h
  refine ⟨_, pss_cons (ps_if (PW.pt (pw_or (pt_not (pt_val (pe_callB (cr_isiX (K := K)) rfl g.n_isinstance bo_isinstance (pa_cons (pv 0) (pa_cons (pe_bltn (v := .ty "tuple") rfl g.n_tuple bo_tuple rfl) (pa_nil)))))) (pw_or1 (pt_cmpR (op_neX (K := K) hu) (pe_callB (cr_lenX (K := K)) rfl g.n_len bo_len (pa_cons (pv 0) (pa_nil))) (pe_int) (nomark _))))) (pss_one (ps_ret (pe_bl))) (pss_nil))
      (pss_one (ps_ret (pe_and (C8.pe_c c_is_integer hr (by decide) rfl (pa_cons (pe_ix (ix_X (K := K)) (pv 0) (pe_int) (fun _ _ => rfl)) (pa_nil))) (pe_and (pe_callB (cr_isiX (K := K)) rfl g.n_isinstance bo_isinstance (pa_cons (pe_ix (ix_X (K := K)) (pv 0) (pe_int) (fun _ _ => rfl)) (pa_cons (pe_bltn (v := .ty "bytes") rfl g.n_bytes bo_bytes rfl) (pa_nil)))) (pe_one (pe_cmpR op_gt (pe_callB (cr_lenX (K := K)) rfl g.n_len bo_len (pa_cons (pe_ix (ix_X (K := K)) (pv 0) (pe_int) (fun _ _ => rfl)) (pa_nil))) (pe_int) (nomark _))))))), ?_⟩
  have ht : SqT K H a [.int i, .byt l.toArray] := st_of hp
  refine q_when (b := false) (et_is (et_or (et_not (et_B (ev_cb (ea_cons (ev_var rfl) (ea_cons ev_c ea_nil)) (rc_isi (fun H1 e => .base (.tup (e _ _ hp))) kt1)))) fun _ => et_test (ev_op (ev_cb1 (ev_var rfl) (rc_lenU ht)) ev_c rv_neI)) rfl) (fun h => by cases h) fun _ H1 e1 => ?_
  have ht1 := ex_t e1 ht
  refine s_ret (ev_is (ev_andV (ev_call (ea_cons (ev_ixT (v := .int i) (ev_var rfl) ev_c ht1 rfl) ea_nil) (Ret.sp fun H1 e Q E q => ⟨i, rfl, q⟩)) fun _ => ev_andV (ev_cb (ea_cons (ev_ixT (v := .byt l.toArray) (ev_var rfl) ev_c ht1 rfl) (ea_cons ev_c ea_nil)) (isi_byt ki5)) fun _ => ev_op (ev_cb1 (ev_ixT (v := .byt l.toArray) (ev_var rfl) ev_c ht1 rfl) (rc_lenY hz)) ev_c rv_gt) (congrArg V.bl ?_)) fun H2 e2 => q H2 (e1.trans e2)
  show (true && (true && decide ((0 : Int) < (l.length : Int)))) = _
  rw [Bool.true_and, Bool.true_and, decide_eq_decide]
  omega
def yPr (ps : List (Nat × List UInt8)) : List (V × V) := ps.map fun s => (.int (s.1 : Int), .byt s.2.toArray)
/-- a tracked tuple of tracked pairs -/
def PcU (H : Hp) (a : Addr) (ps : List (Nat × List UInt8)) : Prop := ∃ as : List Addr, H a = some (.tup (as.map V.ref)) ∧ as.length = ps.length ∧ ∀ (i : Nat) (p : Addr) (z : Nat × List UInt8), as[i]? = some p → ps[i]? = some z → H p = some (.tup [.int (z.1 : Int), .byt z.2.toArray])
theorem PcU.pr {H : Hp} {a : Addr} {ps : List (Nat × List UInt8)} (h : PcU H a ps) : PrU K H a (yPr ps) := by
  obtain ⟨as, h1, h2, h3⟩ := h
  refine ⟨as, st_of h1, by simp [yPr, h2], fun i p z hp hz => ?_⟩
  unfold yPr at hz
  rw [List.getElem?_map] at hz
  obtain ⟨s, hs, rfl⟩ := Option.map_eq_some_iff.mp hz
  exact st_of (h3 i p s hp hs)
theorem PcU.ex {H H' : Hp} {a : Addr} {ps : List (Nat × List UInt8)} (e : Ex H H') (h : PcU H a ps) : PcU H' a ps := let ⟨as, h1, h2, h3⟩ := h; ⟨as, e _ _ h1, h2, fun i p z hp hz => e _ _ (h3 i p z hp hz)⟩
def lensOf (ps : List (Nat × List UInt8)) : List (Int × Int) := ps.map fun s => ((s.1 : Int), (s.2.length : Int))
/-- [(offset, len(data)) for offset, data in pieces] -/
theorem er_lens {σ : L2.St} {H : Hp} {tl : TE} {j k : Nat} {vs : List Nat} {a : Addr} {ps : List (Nat × List UInt8)} (h : Ev tl σ H (.ref a)) (hp : PcU H a ps) (hz : ps.length ≤ 90000) (hl : ∀ z ∈ ps, z.2.length ≤ 16777216)
    (hw : ∀ x y, wipe (((wipe σ vs).set j (some x)).set k (some y)) vs = wipe σ vs) (h1 : ∀ x y, (((wipe σ vs).set j (some x)).set k (some y))[j]? = some (some x)) (h2 : ∀ x y, (((wipe σ vs).set j (some x)).set k (some y))[k]? = some (some y)) :
    Er (tLc (iTup K tl) (gTup K 2 (gCons (gName j) (gCons (gName k) gNil))) tYes (tTup (tCons (tVar j) (tCons (tCB (rLenX K) (tCons (tVar k) tNil)) tNil))) vs) σ H (fun v H1 => ∃ p, v = .ref p ∧ PrL K H1 p (iPr (lensOf ps))) := by
  refine (er_lcPrU (fun i => TupR (.int ((ps.getD i (0, [])).1 : Int)) (.int ((ps.getD i (0, [])).2.length : Int))) (fun i => tupR_sta _ _) h hp.pr (by simpa [yPr] using hz) hw fun i z hz2 => ?_).er fun p xs H1 _ _ h3 r => ⟨p, rfl, ?_⟩
  · unfold yPr at hz2
    rw [List.getElem?_map] at hz2
    obtain ⟨s, hs, rfl⟩ := Option.map_eq_some_iff.mp hz2
    rw [List.getD_eq_getElem?_getD, hs]
    exact Er.ofU (eu_tup (ea_cons (ev_var (h1 _ _)) (ea_cons (ev_cb1 (ev_var (h2 _ _)) (rc_lenY (hl s (List.mem_of_getElem? hs)))) ea_nil)) (by simp)) fun p H1 _ _ h => ⟨p, rfl, tv_at h⟩
  · obtain ⟨as, rfl, hi⟩ := itm_pr (f := fun i => (V.int ((ps.getD i (0, [])).1 : Int), V.int ((ps.getD i (0, [])).2.length : Int))) r
    refine ⟨as, sq_of h3, ?_⟩
    have e : (List.range (yPr ps).length).map (fun i => (V.int ((ps.getD i (0, [])).1 : Int), V.int ((ps.getD i (0, [])).2.length : Int))) = iPr (lensOf ps) := by
      have e0 : (yPr ps).length = ps.length := by simp [yPr]
      rw [e0]
      have := map_range_getD ps (0, []) (fun z : Nat × List UInt8 => (V.int (z.1 : Int), V.int (z.2.length : Int)))
      rw [this]
      unfold iPr lensOf
      rw [List.map_map]
      rfl
    rw [← e]
    exact hi
def spArePieces (K : PySem.W.Frag) : Sp := fun vs H Q _ => ∃ (n : Nat) (a : Addr) (ps : List (Nat × List UInt8)), vs = [.int (n : Int), .ref a] ∧ PcU H a ps ∧ ps.length ≤ 1000 ∧ (∀ z ∈ ps, z.2.length ≤ 100000) ∧ (∀ z ∈ ps, 0 < z.2.length) ∧ Ret (.bl (areSpans n (lensOf ps))) H Q
/-- [f(x) for x in a tuple], truth values -/
theorem ev_allU {σ : L2.St} {H : Hp} {a : Addr} {xs : List V} {tl te : TE} {j : Nat} {vs : List Nat} (h : Ev tl σ H (.ref a)) (hx : SqT K H a xs) (hz : xs.length ≤ 40000) (hw : ∀ x, wipe ((wipe σ vs).set j (some x)) vs = wipe σ vs)
    (he : ∀ (i : Nat) (x : V), xs[i]? = some x → Ev te ((wipe σ vs).set j (some x)) H (.bl true)) : Ev (tCB (rAll K) (tCons (tLc (iTup K tl) (gName j) tYes te vs) tNil)) σ H (.bl true) := by
  have g : EvL (tLc (iTup K tl) (gName j) tYes te vs) σ H ((List.range xs.length).map fun _ => V.bl true) := by
    refine (er_lcP (fun i => (wipe σ vs).set j (some (xs.getD i .non))) (fun i x _ => x = V.bl true) walk_tup (fun _ _ _ _ _ h => h) (by omega) (fun H1 e Rr q => h H1 e _ fun H2 e2 => ⟨a, rfl, ⟨_, ex_t (e.trans e2) hx⟩, q H2 e2⟩) (fun H1 e => ex_t e hx) (fun i x H1 H2 Qc hi e y q => ?_) (fun i _ => hw _) (fun i hi => ?_)).evl fun xs H1 r => itm_eq r
    · obtain ⟨rfl, hx⟩ := y
      have := q _ (Ex.refl _)
      rw [List.getD_eq_getElem?_getD, hx] at this
      exact this
    · have hz2 : xs[i]? = some xs[i] := List.getElem?_eq_getElem hi
      rw [List.getD_eq_getElem?_getD, hz2]
      exact Er.of (he i _ hz2) fun _ _ => rfl
  have e2 : ((List.range xs.length).map fun _ => V.bl true) = ((List.range xs.length).map fun _ => true).map V.bl := by rw [List.map_map]; rfl
  rw [e2] at g
  have k := ev_all (K := K) g
  have e3 : ((List.range xs.length).map fun _ => true).all id = true := by simp
  rw [e3] at k
  exact k
theorem sc_are_pieces : FnScope ["size", "pieces", "piece", "offset", "data"] ["size", "pieces"] (defScope (topS 31)) := ⟨rfl, rfl, rfl, by decide +kernel, rfl, by decide +kernel, by decide +kernel⟩
theorem ok_are_pieces (g : GF K mg) (D : D0 K mg "are_pieces" (topS 31)) (c_are_spans : C8.Cal P w K mg base 1 "are_spans" (spAreSpans K) []) (c_is_piece : C8.Cal P w K mg base 2 "is_piece" (spIsPiece K) [])  : C8.Cal P w K mg base 3 "are_pieces" (spArePieces K) [] := by
  refine calD D (fun _ _ _ _ _ _ us hl => match us, hl with | [_, _], _ => rfl) sc_are_pieces (fun vs H Q E h => by obtain ⟨n, a, ps, rfl, hp, hz, hl, h0, q⟩ := h; rfl) fun f cdv A outer s H vs Q E hr h => ?_
  have hu := hr.units
  have hu1 := hu_of hr
  obtain ⟨n, a, ps, rfl, hp, hz, hl, h0, q⟩ := h
  refine ⟨_, pss_cons (ps_if (pt_not (pt_val (pe_callB (cr_allX (K := K) rfl) rfl g.n_all bo_all (pa_cons (pe_lc (own := [("piece", 2)]) (tt := tYes) rfl sc_are_pieces.nd (pi_tupK (K := K) (pv 1)) (blkOk_by (N := ["size", "pieces", "piece", "offset", "data"]) (sc := defScope (topS 31)) (by decide +kernel)) (fun _ _ _ _ _ => pg_name (i := 2) sc_are_pieces.nd rfl (Or.inl rfl)) (fun _ _ _ _ _ => pts_nil) (fun _ _ _ _ _ => C8.pe_c c_is_piece hr (by decide) rfl (pa_cons (pv 2) (pa_nil)))) (pa_nil))))) (pss_one (ps_ret (pe_bl))) (pss_nil))
      (pss_one (ps_ret (C8.pe_c c_are_spans hr (by decide) rfl (pa_cons (pv 0) (pa_cons (pe_lc (own := [("offset", 3), ("data", 4)]) (tt := tYes) rfl sc_are_pieces.nd (pi_tupK (K := K) (pv 1)) (blkOk_by (N := ["size", "pieces", "piece", "offset", "data"]) (sc := defScope (topS 31)) (by decide +kernel)) (fun _ _ _ _ _ => pg_tupK (K := K) (n := 2) rfl (pgs_cons (pg_name (i := 3) sc_are_pieces.nd rfl (Or.inl rfl)) (pgs_cons (pg_name (i := 4) sc_are_pieces.nd rfl (Or.inl rfl)) (pgs_nil)))) (fun _ _ _ _ _ => pts_nil) (fun _ _ _ _ _ => pe_tup (pa_cons (pv 3) (pa_cons (pe_callB (cr_lenX (K := K)) rfl g.n_len bo_len (pa_cons (pv 4) (pa_nil))) (pa_nil))))) (pa_nil)))))), ?_⟩
  obtain ⟨as, h1, h2, h3⟩ := id hp
  refine q_when (b := false) (et_is (et_not (et_B (ev_allU (ev_var rfl) (st_of h1) (by rw [List.length_map]; omega) (fun _ => rfl) fun i x hx => ?_))) rfl) (fun h => by cases h) fun _ H1 e1 => ?_
  · rw [List.getElem?_map] at hx
    obtain ⟨p, hp1, rfl⟩ := Option.map_eq_some_iff.mp hx
    have hi : i < ps.length := by have := (List.getElem?_eq_some_iff.mp hp1).1; omega
    have hz1 := List.getElem?_eq_getElem hi
    have hm := List.getElem_mem hi
    have h4 := h3 i p _ hp1 hz1
    refine ev_call (ea_cons (ev_var rfl) ea_nil) fun H1 e Q q E => ⟨p, _, _, rfl, e _ _ h4, by have := hl _ hm; omega, fun H' e' => ?_⟩
    rw [decide_eq_true (h0 _ hm)]
    exact q H' e'
  · refine s_ret (ev_callA (ErA.consV (ev_var rfl) (ErA.cons (er_lens (ev_var rfl) (hp.ex e1) (by omega) (fun z hz => by have := hl z hz; omega) (fun _ _ => rfl) (fun _ _ => rfl) (fun _ _ => rfl)) (fun v H H' e ⟨p, h, hp⟩ => ⟨p, h, hp.ex e⟩) ErA.nil)) fun vs H2 e2 hv => ?_) fun H3 e3 => q H3 (e1.trans e3)
    obtain ⟨r, rfl, v, r2, rfl, ⟨p, rfl, hpr⟩, rfl⟩ := hv
    exact fun H3 e3 Q q E => ⟨n, p, lensOf ps, rfl, hpr.ex e3, q⟩
end
end Tar

/-! TaP10 -/
set_option Elab.async false
set_option linter.all false
set_option maxRecDepth 100000
set_option maxHeartbeats 4000000
/-! defs, 10: map_block, long_part -/
namespace Tar
open PySem PySem.Spec PyProof.Rows L2 Evl
theorem numL_len : ∀ (k n : Nat), n < 10 ^ (k + 1) → (TL.numL n).length ≤ k + 1
  | 0, n, h => by rw [TL.numL_lt (by simpa using h)]; simp
  | k + 1, n, h => by
    by_cases h8 : n < 10
    · rw [TL.numL_lt h8]
      simp
    · rw [TL.numL_step (by omega), List.length_append]
      have := numL_len k (n / 10) (by rw [Nat.pow_succ] at h; omega)
      simp
      omega
def lineT (n : Nat) : List Nat := TL.numL n ++ [10]
def mapText (ns : List Nat) : List Nat := (ns.map lineT).flatten
def flat2 (ss : List (Nat × Nat)) : List Nat := (ss.map fun s => [s.1, s.2]).flatten
def mapBlock (size : Nat) (ss : List (Nat × Nat)) : List UInt8 := padded (toB (mapText (size :: ss.length :: flat2 ss)))
theorem joinL_nil : ∀ ys : List (List Nat), TL.joinL [] ys = ys.flatten
  | [] => rfl
  | [p] => by simp [TL.joinL]
  | p :: q :: r => by
    show p ++ ([] ++ TL.joinL [] (q :: r)) = _
    rw [joinL_nil (q :: r), List.nil_append]
    rfl
theorem yes_ite {σ : L2.St} {H : Hp} {A B : Hp → Prop} (h : A H) : tYes σ H (fun b H3 => if b = true then A H3 else B H3) := by
  show (if true = true then A H else B H)
  rw [if_pos rfl]
  exact h
/-- the walk of a comprehension's loop, by what one turn asks -/
theorem it_gen {J : It} {n : Nat} {G : Hp → Prop} {Y : Nat → Hp → V → Hp → Prop} (w : Walk J n G Y) {B : V → Hp → (Hp → Prop) → Prop} {H0 : Hp} {Qd : Hp → Prop} (Pv : Nat → Hp → Prop) (h0 : Pv 0 H0) (hG : ∀ i H, i ≤ n → Pv i H → G H)
    (hs : ∀ i x H H', i < n → Pv i H → Y i H x H' → B x H' (Pv (i + 1))) (hd : ∀ H, Pv n H → Qd H) :
    ∃ W : Nat → Nat → Hp → Prop, (∃ m, W 0 m H0) ∧ ∀ i m H, W i m H → (J.stop i H ∧ Qd H) ∨ (J.go i H ∧ ∃ Nx : Hp → Prop, (∀ H', Nx H' → ∃ m', m' < m ∧ W (i + 1) m' H') ∧ ∀ x H', J.yld i H x H' → B x H' Nx) := by
  refine ⟨fun i m H => m = n - i ∧ i ≤ n ∧ Pv i H, ⟨n, by simp, Nat.zero_le _, h0⟩, ?_⟩
  rintro i m H ⟨rfl, hi, p⟩
  have q := hG i H hi p
  by_cases hlt : i < n
  · exact .inr ⟨w.goes i H hlt q, Pv (i + 1), fun H' p' => ⟨n - (i + 1), by omega, rfl, hlt, p'⟩, fun x H' y => hs i x H H' hlt p (w.yields i H x H' hlt q y)⟩
  · have e : i = n := by omega
    subst e
    exact .inl ⟨w.stops H q, hd H p⟩
section
variable {K : PySem.W.Frag} {σ : L2.St} {H : Hp}
def flatV2 (ps : List (V × V)) : List V := (ps.map fun z => [z.1, z.2]).flatten
/-- [x for p in pairs for x in p] -/
theorem el_lc2 {a : Addr} {ps : List (V × V)} {tl : TE} {j k : Nat} {vs vs1 : List Nat} (h : Ev tl σ H (.ref a)) (hx : PrL K H a ps) (hz : ps.length ≤ 90000)
    (hw : ∀ x, wipe ((wipe σ vs).set j (some x)) vs = wipe σ vs) (hj : ∀ x, ((wipe σ vs).set j (some x))[j]? = some (some x)) (hw1 : ∀ x y, wipe ((wipe ((wipe σ vs).set j (some x)) vs1).set k (some y)) vs1 = wipe ((wipe σ vs).set j (some x)) vs1) (hk : ∀ x y, ((wipe ((wipe σ vs).set j (some x)) vs1).set k (some y))[k]? = some (some y)) :
    EvL (tLc2 (iList K tl) (gName j) tYes (iTup K (tVar j)) (gName k) tYes (tVar k) vs vs1) σ H (flatV2 ps) := fun H0 e Q q => h H0 e _ fun H1 e1 => by
  obtain ⟨as, hs1, hp⟩ := hx
  have hl : (as.map V.ref).length = ps.length := by rw [List.length_map]; exact hp.1
  refine ⟨a, rfl, ⟨_, ex_l (e.trans e1) hs1⟩, fun Dl hD => ?_⟩
  refine it_gen walk_list (fun i H' => H1 Dl = none ∧ Ex H1 H' ∧ H' Dl = some (.lst (flatV2 (ps.take i)))) ⟨hD, Ex.new hD, upd_same⟩ (fun i H' _ p => ex_l ((e.trans e1).trans p.2.1) hs1) (fun i x Ha Hb hi p y => ?_) (fun H' p => ?_)
  · obtain ⟨rfl, hx⟩ := y
    obtain ⟨pa, z, rfl, hz2, ht⟩ := hp.get hx
    have ht2 := ex_t ((e.trans e1).trans p.2.1) ht
    have hi2 : i < ps.length := by omega
    refine ⟨hw _, ?_⟩
    refine yes_ite ?_
    refine ⟨.ref pa, hj _, pa, rfl, ⟨_, ht2⟩, ?_⟩
    refine it_gen walk_tup (fun m H' => H1 Dl = none ∧ Ex H1 H' ∧ H' Dl = some (.lst (flatV2 (ps.take i) ++ [z.1, z.2].take m))) ⟨p.1, p.2.1, by rw [List.take_zero, List.append_nil]; exact p.2.2⟩ (fun m H' _ p2 => ex_t ((e.trans e1).trans p2.2.1) ht) (fun m x2 Hc Hd hm p2 y2 => ?_) (fun H' p2 => ⟨p2.1, p2.2.1, ?_⟩)
    · obtain ⟨rfl, hx2⟩ := y2
      refine ⟨hw1 _ _, ?_⟩
      refine yes_ite ?_
      refine ⟨x2, hk _ _, _, p2.2.2, ?_, p2.1, Ex.mut p2.2.1 p2.1, ?_⟩
      · have h1 : (flatV2 (ps.take i)).length ≤ 2 * i := by
          unfold flatV2
          rw [List.length_flatten, List.map_map]
          have : ∀ l : List (V × V), (l.map (List.length ∘ fun z => [z.1, z.2])).sum = 2 * l.length := by
            intro l
            induction l with
            | nil => rfl
            | cons c r ih => rw [List.map_cons, List.sum_cons, ih, List.length_cons]; show 2 + _ = _; omega
          rw [this, List.length_take]
          omega
        have h2 : ([z.1, z.2].take m).length ≤ 2 := by rw [List.length_take]; show min m 2 ≤ 2; omega
        rw [List.length_append, sizeLine_eq]
        omega
      · rw [upd_same, take_snoc hx2, List.append_assoc]
    · have e3 : flatV2 (ps.take (i + 1)) = flatV2 (ps.take i) ++ [z.1, z.2] := by
        unfold flatV2
        rw [take_snoc hz2, List.map_append, List.flatten_append]
        simp
      rw [e3]
      exact p2.2.2
  · obtain ⟨p1, p2, p3⟩ := p
    rw [hl, List.take_length] at p3
    exact q Dl H' (fresh_back e1 p1) (e1.trans p2) p3
/-- [f(x) for x in list] -/
theorem el_lcV {a : Addr} {xs : List V} {tl te : TE} {j : Nat} {vs : List Nat} (f : V → V) (h : Ev tl σ H (.ref a)) (hx : SqL K H a xs) (hz : xs.length ≤ 90000) (hw : ∀ x, wipe ((wipe σ vs).set j (some x)) vs = wipe σ vs)
    (he : ∀ x, x ∈ xs → Ev te ((wipe σ vs).set j (some x)) H (f x)) : EvL (tLc (iList K tl) (gName j) tYes te vs) σ H (xs.map f) := by
  have g : EvL (tLc (iList K tl) (gName j) tYes te vs) σ H ((List.range xs.length).map fun i => f (xs.getD i .non)) := by
    refine (er_lcP (fun i => (wipe σ vs).set j (some (xs.getD i .non))) (fun i x _ => x = f (xs.getD i .non)) walk_list (fun _ _ _ _ _ h => h) (by omega) (fun H1 e Rr q => h H1 e _ fun H2 e2 => ⟨a, rfl, ⟨_, ex_l (e.trans e2) hx⟩, q H2 e2⟩) (fun H1 e => ex_l e hx) (fun i x H1 H2 Qc hi e y q => ?_) (fun i _ => hw _) (fun i hi => ?_)).evl fun xs H1 r => itm_eq r
    · obtain ⟨rfl, hx⟩ := y
      have := q _ (Ex.refl _)
      rw [List.getD_eq_getElem?_getD, hx] at this
      exact this
    · have hz2 : xs[i]? = some xs[i] := List.getElem?_eq_getElem hi
      rw [List.getD_eq_getElem?_getD, hz2]
      exact Er.of (he _ (List.getElem_mem hi)) fun _ _ => rfl
  rw [map_range_getD xs .non f] at g
  exact g
/-- the same over a new list -/
theorem el_lcN {xs : List V} {tl te : TE} {j : Nat} {vs : List Nat} (f : V → V) (h : EvL tl σ H xs) (hz : xs.length ≤ 900000) (hw : ∀ x, wipe ((wipe σ vs).set j (some x)) vs = wipe σ vs)
    (he : ∀ x, x ∈ xs → Ev te ((wipe σ vs).set j (some x)) H (f x)) : EvL (tLc (iList K tl) (gName j) tYes te vs) σ H (xs.map f) := by
  have g : EvL (tLc (iList K tl) (gName j) tYes te vs) σ H ((List.range xs.length).map fun i => f (xs.getD i .non)) := fun H0 e Q q => h H0 e _ fun a H1 ha e1 h1 => ⟨a, rfl, ⟨_, sq_of h1⟩, fun Dl hD =>
    lc_it walk_list (fun i H' => H1 Dl = none ∧ Ex H1 H' ∧ H' Dl = some (.lst ((List.range i).map fun i => f (xs.getD i .non)))) ⟨hD, Ex.new hD, upd_same⟩ (fun i H' _ p => sq_of (p.2.1 _ _ h1)) (fun i x Ha Hb hi p y => by
      obtain ⟨rfl, hx⟩ := y
      obtain ⟨p1, p2, p3⟩ := p
      refine ⟨hw _, ?_⟩
      show te _ _ _
      refine he x (List.mem_of_getElem? hx) _ ((e.trans e1).trans p2) _ fun H4 e4 => ⟨_, e4 _ _ p3, ?_, p1, Ex.mut (p2.trans e4) p1, ?_⟩
      · rw [List.length_map, List.length_range, sizeLine_eq]
        omega
      · rw [upd_same, List.range_succ, List.map_append, List.map_singleton, List.getD_eq_getElem?_getD, hx]
        rfl) (fun H' p => q Dl H' (fresh_back e1 p.1) (e1.trans p.2.1) p.2.2)⟩
  rw [map_range_getD xs .non f] at g
  exact g
end
section
variable {P : Program} {w : World} {K : PySem.W.Frag} {mg : Str → Option Value} {base : Heap}
def nPr (ss : List (Nat × Nat)) : List (V × V) := ss.map fun s => (.int (s.1 : Int), .int (s.2 : Int))
theorem nPr_flat (ss : List (Nat × Nat)) : flatV2 (nPr ss) = (flat2 ss).map fun n : Nat => V.int (n : Int) := by
  unfold flatV2 nPr flat2
  induction ss with
  | nil => rfl
  | cons s r ih =>
    simp only [List.map_cons, List.flatten_cons, List.map_append] at ih ⊢
    rw [ih]
    rfl
def iLst (ns : List Nat) : List V := ns.map fun n : Nat => V.int (n : Int)
/-- [..] + [..] -/
theorem el_cat {σ : L2.St} {H : Hp} {ta tb : TE} {xs ys : List V} (h : EvL ta σ H xs) (h2 : EvL tb σ H ys) (hz : xs.length + ys.length ≤ 16777216) : EvL (tOp rAddX ta tb) σ H (xs ++ ys) := fun H1 e Q q =>
  h H1 e _ fun p H2 hp e2 h2' => h2 H2 (e.trans e2) _ fun p3 H3 hp3 e3 h3 => .inr (.inr (.inr ⟨p, p3, xs, ys, rfl, rfl, e3 _ _ h2', h3, by rw [sizeLine_eq]; exact hz, fun r hr => q r _ (fresh_back (e2.trans e3) hr) ((e2.trans e3).trans (Ex.new hr)) upd_same⟩))
/-- f"{n}\n" -/
theorem ev_line {σ : L2.St} {H : Hp} {te : TE} {n : Nat} (h : Ev te σ H (.int (n : Int))) (hn : n < 10 ^ 12) : Ev (fun σ H Q => tJs [tFmt te, tC (.str "\n")] Str.empty σ H fun out H1 => Q (.str out) H1) σ H (.str (SX.S (lineT n))) := fun H1 e Q q => by
  have hl := numL_len 11 n hn
  have e0 : (Str.empty ++ Str.ofString (toString ((n : Nat) : Int))) = SX.S (TL.numL n) := by
    rw [SX.num_S]
    exact SX.S_cat [] (TL.numL n)
  have e1 : (SX.S (TL.numL n) ++ ("\n" : Str)) = SX.S (lineT n) := SX.S_cat (TL.numL n) [10]
  refine h H1 e _ fun H2 e2 => .inr ⟨(n : Int), rfl, ?_, Str.ofString (toString ((n : Nat) : Int)), rfl, ?_, ("\n" : Str), rfl, ?_, ?_⟩
  · have h1 : (n : Int).natAbs < 2 ^ 40 := Nat.lt_of_lt_of_le (by simpa using hn) (by decide)
    have h2 := PySem.Flt.log2_lt_of (k := 40) (by decide) h1
    show (n : Int).natAbs.log2 < 1920
    omega
  · rw [e0, SX.S_len, sizeLine_eq]
    omega
  · rw [e0, e1, SX.S_len, sizeLine_eq]
    unfold lineT
    rw [List.length_append]
    show _ + 1 ≤ _
    omega
  · show Q (.str ((Str.empty ++ Str.ofString (toString ((n : Nat) : Int))) ++ ("\n" : Str))) H2
    rw [e0, e1]
    exact q H2 e2
def rJoin (K : PySem.W.Frag) : V → List V → Hp → VK → Prop := fun x xs H Q => ∃ a p, ∃ ys : List Str, x = .str a ∧ xs = [.ref p] ∧ (SqL K H p (ys.map V.str) ∨ SqT K H p (ys.map V.str)) ∧ (ys.map (·.length)).sum + ys.length * a.length ≤ 16777216 ∧ Q (.str (Txt.join a ys)) H
theorem ev_join {σ : L2.St} {H : Hp} {te : TE} {ts : List (List Nat)} (h : EvL te σ H (ts.map fun t => V.str (SX.S t))) (hz : (ts.map List.length).sum ≤ 16777216) : Ev (tM1 (rJoin K) (tC (.str "")) te) σ H (.str (SX.S ts.flatten)) := fun H1 e Q q => by
  refine ⟨⟨_, rfl⟩, h H1 e _ fun p H2 _ e2 h2 => ⟨_, p, ts.map SX.S, rfl, rfl, .inl (sq_of (by rw [List.map_map]; exact h2)), ?_, ?_⟩⟩
  · rw [List.map_map]
    have e3 : ((fun x : Str => x.length) ∘ SX.S) = (List.length : List Nat → Nat) := funext fun t => SX.S_len t
    rw [e3]
    show _ + _ * 0 ≤ _
    omega
  · have e4 : Txt.join ("" : Str) (ts.map SX.S) = SX.S ts.flatten := by
      have := SX.join_S [] ts
      rw [joinL_nil] at this
      exact this
    rw [e4]
    exact q H2 e2
def spMapBlock (K : PySem.W.Frag) : Sp := fun vs H Q _ => ∃ (n : Nat) (a : Addr) (ss : List (Nat × Nat)), vs = [.int (n : Int), .ref a] ∧ PrL K H a (nPr ss) ∧ ss.length ≤ 1000 ∧ n < 10 ^ 12 ∧ (∀ s ∈ ss, s.1 < 10 ^ 12 ∧ s.2 < 10 ^ 12) ∧ Ret (.byt (mapBlock n ss).toArray) H Q
theorem flat2_len (ss : List (Nat × Nat)) : (flat2 ss).length = 2 * ss.length := by
  unfold flat2
  induction ss with
  | nil => rfl
  | cons s r ih => simp only [List.map_cons, List.flatten_cons, List.length_append, List.length_cons] at ih ⊢; rw [ih]; show 2 + _ = _; omega
theorem flat2_lt {ss : List (Nat × Nat)} {b : Nat} (h : ∀ s ∈ ss, s.1 < b ∧ s.2 < b) : ∀ n ∈ flat2 ss, n < b := by
  intro n hn
  unfold flat2 at hn
  obtain ⟨l, hl, hn⟩ := List.mem_flatten.mp hn
  obtain ⟨s, hs, rfl⟩ := List.mem_map.mp hl
  have := h s hs
  rcases List.mem_cons.mp hn with e | e
  · omega
  · have := List.mem_singleton.mp e
    omega
theorem lines_sum (ns : List Nat) (h : ∀ n ∈ ns, n < 10 ^ 12) : ((ns.map lineT).map List.length).sum ≤ 13 * ns.length := by
  induction ns with
  | nil => exact Nat.le_refl _
  | cons n r ih =>
    have h1 := ih fun m hm => h m (List.mem_cons_of_mem _ hm)
    have h2 := numL_len 11 n (h n (List.mem_cons_self ..))
    have h3 : (lineT n).length = (TL.numL n).length + 1 := by unfold lineT; rw [List.length_append]; rfl
    simp only [List.map_cons, List.sum_cons, List.length_cons] at h1 ⊢
    omega
theorem lineT_asc (n : Nat) : ∀ c ∈ lineT n, c < 128 := by
  intro c hc
  unfold lineT at hc
  rcases List.mem_append.mp hc with h | h
  · have := TL.numL_digits n c h
    omega
  · have := List.mem_singleton.mp h
    omega
theorem sc_map_block : FnScope ["size", "spans", "numbers", "span", "number"] ["size", "spans"] (defScope (topS 68)) := ⟨rfl, rfl, rfl, by decide +kernel, rfl, by decide +kernel, by decide +kernel⟩
theorem ok_map_block (g : GF K mg) (D : D0 K mg "map_block" (topS 68)) (c_padded : C8.Cal P w K mg base 1 "padded" (spPadded) [])  : C8.Cal P w K mg base 2 "map_block" (spMapBlock K) [] := by
  refine calD D (fun _ _ _ _ _ _ us hl => match us, hl with | [_, _], _ => rfl) sc_map_block (fun vs H Q E h => by obtain ⟨n, a, ss, rfl, hp, hl, hn, hs, q⟩ := h; rfl) fun f cdv A outer s H vs Q E hr h => ?_
  have hu := hr.units
  have hu1 := hu_of hr
  obtain ⟨n, a, ss, rfl, hp, hl, hn, hs, q⟩ := h
  refine ⟨_, pss_cons (ps_set (i := 2) sc_map_block.nd rfl (Or.inl rfl) (pe_op op_addX (pe_lst (pa_cons (pv 0) (pa_cons (pe_callB (cr_lenX (K := K)) rfl g.n_len bo_len (pa_cons (pv 1) (pa_nil))) (pa_nil)))) (pe_lc2 (own := [("span", 3), ("number", 4)]) (vs1 := [4]) (tt := tYes) (tt1 := tYes) rfl sc_map_block.nd (pi_listK (K := K) (pv 1)) (blkOk_by (N := ["size", "spans", "numbers", "span", "number"]) (sc := defScope (topS 68)) (by decide +kernel)) (by decide) (fun _ _ _ _ _ => pg_name (i := 3) sc_map_block.nd rfl (Or.inl rfl)) (fun _ _ _ _ _ => pts_nil) (fun _ _ _ _ _ => pi_tupK (K := K) (pv 3)) (fun _ _ _ _ _ => pg_name (i := 4) sc_map_block.nd rfl (Or.inl rfl)) (fun _ _ _ _ _ => pts_nil) (fun _ _ _ _ _ => pv 4))))
      (pss_one (ps_ret (C8.pe_c c_padded hr (by decide) rfl (pa_cons (pe_bm0 PySem.F.plainAttrs_str PySem.F.slot_str_encode PySem.F.type_str_encode mt_encode (pe_join (pe_str) (pe_lc (own := [("number", 4)]) (tt := tYes) rfl sc_map_block.nd (pi_listK (K := K) (pv 2)) (blkOk_by (N := ["size", "spans", "numbers", "span", "number"]) (sc := defScope (topS 68)) (by decide +kernel)) (fun _ _ _ _ _ => pg_name (i := 4) sc_map_block.nd rfl (Or.inl rfl)) (fun _ _ _ _ _ => pts_nil) (fun _ _ _ _ _ => pe_joined (PJ.cons (pe_fmt (pv 4)) (PJ.cons (pe_str) (PJ.nil))))))) (pa_nil))))), ?_⟩
  obtain ⟨as, hs1, hp2⟩ := id hp
  have hlen : (as.map V.ref).length = ss.length := by rw [List.length_map, hp2.1]; simp [nPr]
  have hall : ∀ m ∈ n :: ss.length :: flat2 ss, m < 10 ^ 12 := by
    intro m hm
    rcases List.mem_cons.mp hm with e | hm
    · omega
    rcases List.mem_cons.mp hm with e | hm
    · omega
    exact flat2_lt hs m hm
  have hfl := flat2_len ss
  refine q_asgL (xs := iLst (n :: ss.length :: flat2 ss)) ?_ fun p H1 hp1 e1 h1 => ?_
  · have g := el_cat (σ := L2.start ["size", "spans", "numbers", "span", "number"] [.int (n : Int), .ref a]) (el_lst (ea_cons (ev_var (i := 0) rfl) (ea_cons (ev_is (ev_cb1 (ev_var (i := 1) rfl) (rc_lenL (K := K) hs1)) (congrArg V.int (show ((as.map V.ref).length : Int) = (ss.length : Int) by rw [hlen]))) ea_nil)) (by simp)) (el_lc2 (j := 3) (k := 4) (vs := [3, 4]) (vs1 := [4]) (ev_var (i := 1) rfl) hp (by simp [nPr]; omega) (fun _ => rfl) (fun _ => rfl) (fun _ _ => rfl) (fun _ _ => rfl)) ?_
    · rw [nPr_flat] at g
      exact g
    · rw [nPr_flat]
      simp
      omega
  · refine s_ret (ev_call (ea_cons (ev_enc (ev_join (ts := (n :: ss.length :: flat2 ss).map lineT) ?_ ?_) ?_ ?_) ea_nil) (Ret.sp fun H1 e Q E q => ⟨_, rfl, ?_, q⟩)) fun H2 e2 => q H2 (e1.trans e2)
    · have hc := el_lcV (K := K) (f := fun x => match x with | .int i => V.str (SX.S (lineT i.toNat)) | _ => .non) (tl := tVar 2) (j := 4) (vs := [4]) (te := fun σ H Q => tJs [tFmt (tVar 4), tC (.str "\n")] Str.empty σ H fun out H1 => Q (.str out) H1) (ev_var (σ := (L2.start ["size", "spans", "numbers", "span", "number"] [.int (n : Int), .ref a]).set 2 (some (.ref p))) rfl) (sq_of h1) (by simp [iLst]; omega) (fun _ => rfl) (fun x hx => ?_)
      · have e2 : (iLst (n :: ss.length :: flat2 ss)).map (fun x => match x with | .int i => V.str (SX.S (lineT i.toNat)) | _ => .non) = ((n :: ss.length :: flat2 ss).map lineT).map fun t => V.str (SX.S t) := by
          unfold iLst
          rw [List.map_map, List.map_map]
          rfl
        rw [e2] at hc
        exact hc
      · obtain ⟨m, hm, rfl⟩ := List.mem_map.mp hx
        exact ev_line (ev_var rfl) (hall m hm)
    · have := lines_sum _ hall
      simp only [List.length_cons] at this
      omega
    · intro c hc
      obtain ⟨l, hl2, hc⟩ := List.mem_flatten.mp hc
      obtain ⟨m, _, rfl⟩ := List.mem_map.mp hl2
      exact lineT_asc m c hc
    · have := lines_sum _ hall
      rw [List.length_flatten]
      simp only [List.length_cons] at this
      omega
    · have := lines_sum _ hall
      rw [List.length_map, List.length_flatten]
      simp only [List.length_cons] at this
      omega
end
end Tar

/-! TaS -/
set_option Elab.async false
set_option linter.all false
set_option maxRecDepth 100000
set_option maxHeartbeats 4000000
/-! super().__init__(..) in an own class's __init__ -/
namespace Tar
open PySem PySem.Spec PyProof.Rows L2 Evl
/-- what must be seen of the class at C (def f of it, its cell cc, its code cda), Member's __init__ at f2 -/
structure SupK (P : Program) (K : PySem.W.Frag) (f cc cda C f2 : Addr) : Prop where
  lf : ∃ oc od fd osl ar, K.lookup f = some ⟨oc, od, .func fd, osl⟩ ∧ (fd.params.posonlyargs ++ fd.params.args).head? = some ar ∧ ar.arg = "self"
  lcode : ∃ ccl cdd vs ccs file tf, K.lookup cda = some ⟨ccl, cdd, .fields vs, ccs⟩ ∧ vs[2]? = some (.str file tf) ∧ ((P.main.file : Str) == file) = true
  lcell : ∃ cl cld csl, K.lookup cc = some ⟨cl, cld, .cell (some (.ref C)), csl⟩
  hC : ∃ cd, PySem.W.clsIn K C = some cd
  sub : PySem.W.mroIn K C (.ref C) = some true
  sup : PySem.W.ks_superIn K C C "__init__" = some (some (.ref f2))
  ty : PySem.W.typeIn K (.ref f2) = some (.type "function")
  opq : PySem.W.nsIn K cStatics "thirdparty.any" = some none
  fn2 : PySem.W.fnIn K f2 = true
  top : (P.main.scope.names.lookup ("super" : Str)).isSome = false
/-- super().__init__(..): Member's __init__ at the same instance -/
def tSup (i : Nat) (C : Addr) (sp : Sp) (t : TA) : TS := fun D σ H => ∃ x dx fs, σ[i]? = some (some (.ref x)) ∧ H x = some (.ins C dx fs) ∧ t σ H fun vs H1 => sp (.ref x :: vs) H1 (fun _ H2 => D.nx σ H2) C8.E0
structure PSat (X : Cx) (fb body : List Stmt) (t : TS) : Prop where
  run : ∀ (pins : List (Addr × Obj)) (s : Shared) (σ : L2.St) (H : Hp) (D : Ends), Inv X pins σ H s → t D σ H → _root_.PySem.wpAt (model X.prog X.w) X.A (.func fb X.env) (execs body X.env) (SP X pins D) X.xe s
section
variable {X : Cx} {fb rest : List Stmt} {st : Stmt} {t u : TS}
theorem psat_of (h : PSs X rest t) : PSat X fb rest t := ⟨fun pins s σ H D I hw => wpAt_of_wpAny (h.run pins s σ H D I hw)⟩
theorem psat_cons (h1 : PS X st t) (h2 : PSat X fb rest u) : PSat X fb (st :: rest) (tSeq t u) := by
  refine ⟨fun pins s σ H D I hw => ks_wpAt_execs_cons (wpAt_of_wpAny (thn (h1.run pins s σ H { D with nx := u D } I hw) fun f s1 q => ?_))⟩
  cases f with
  | next =>
    obtain ⟨σ', H', I', q⟩ := q
    exact h2.run pins s1 σ' H' D I' q
  | ret v => exact q
  | brk => exact q
  | cont => exact q
theorem psat_super {f cc cda C f2 : Addr} {sp : Sp} {k : Nat} {e : Expr} {es : List Expr} {p0 p1 apos pos pos' : Pos} {ta : TA} {i : Nat} {pl : Sem Bool} (S : SupK X.prog X.K f cc cda C f2) (F : FnR X.prog X.w X.K X.mg X.base C8.CX0 k f2 sp) (hr : Room k X.A) (hm : X.mg "super" = none)
    (hfu : X.env.func = some f) (hco : X.env.code = .ref cda) (hce : X.env.cells.lookup ("__class__" : Str) = some cc) (hks : X.env.kindOf "super" = some .globalImplicit) (hkc : X.env.kindOf "__class__" = some .free) (hi : X.N[i]? = some ("self" : Str)) (hka : X.env.kindOf "self" = some .local)
    (ha : PA X (e :: es) ta) (hr2 : PSat X fb rest u) (hst : starEach (e :: es) X.env = (false, eval e X.env) :: starEach es X.env := by rfl) (hpl : (backTo pos (starEach es X.env)).any (·.1) = false := by rfl)
    (hin : interactive X.env = false := by rfl)
    (hsw : swapsWith (.Call (.Attribute (.Call (.Name "super" p0) [] [] p1) "__init__" apos) (e :: es) [] pos) none pos'.line X.env = pure false := by rfl)
    (hev : eval (.Call (.Attribute (.Call (.Name "super" p0) [] [] p1) "__init__" apos) (e :: es) [] pos) X.env = (do
      let ov ← attributeBase (.Call (.Name "super" p0) [] [] p1) "__init__" X.env (eval (.Call (.Name "super" p0) [] [] p1) X.env)
      standAt apos.atName
      let (f, first) ← holding [ov] (getMethod ov "__init__" pl)
      callWith pos f first (backTo pos (starEach (e :: es) X.env)) []) := by rfl) :
    PSat X fb (.Expr (.Call (.Attribute (.Call (.Name "super" p0) [] [] p1) "__init__" apos) (e :: es) [] pos) pos' :: rest) (tSeq (tSup i C sp ta) u) := by
  refine ⟨fun pins s σ H D I hw => ks_wpAt_execs_cons ?_⟩
  obtain ⟨x, dx, fs, hx, hH, hw⟩ := hw
  refine ks_wpAt_Expr_any (ks_wpAt_MethodCall (pl := pl) ?_ hev) hin hsw
  obtain ⟨oc, od, fd, osl, ar, lf, hp, har⟩ := S.lf
  obtain ⟨ccl, cdd, vs, ccs, file, tf, lc, hvs, hfile⟩ := S.lcode
  obtain ⟨cl, cld, csl, lcell⟩ := S.lcell
  obtain ⟨cd, hC⟩ := S.hC
  have KX := I.kIn
  obtain ⟨oD, hD1, hD2⟩ : ∃ oD, s.heap.get? C = some oD ∧ oD.data = .cls cd := by
    have hC' := hC
    unfold PySem.W.clsIn at hC'
    split at hC'
    · rename_i c d cd' sl ho
      cases hC'
      exact ⟨_, KX _ _ ho, rfl⟩
    · cases hC'
  obtain ⟨mA, O, _⟩ := ins_get I.hok hH
  obtain ⟨od2, J, _⟩ := O.look
  obtain ⟨of, hof, hofc⟩ : ∃ of, s.heap.get? f2 = some of ∧ of.cls = .type "function" := by
    have ht' : (X.K.lookup f2).map (·.cls) = some (.type "function") := S.ty
    cases z : X.K.lookup f2 with
    | none => rw [z] at ht'; cases ht'
    | some of => rw [z] at ht'; exact ⟨of, KX _ _ z, Option.some.inj ht'⟩
  refine ks_wpAt_super_base hks hkc (by decide) hfu (KX _ _ lf) rfl hp hco (KX _ _ lc) rfl hvs hfile S.top ?_
  obtain ⟨mb, h1, h2⟩ := I.mod.blt
  refine PySem.W.ks_loadName_global I.ok.kind hks (Calls.loadGlobal_builtin (by rw [I.ok.glob]; exact I.mod.glob.keeps I.bk) hm (by rw [I.ok.blt]; exact h1.keeps I.bk) ((h2 "super" (by decide)).trans bo_super) ⟨rfl, ?_⟩)
  refine wpAny_loadName_free I.ok.kind hkc hce ⟨_, KX _ _ lcell, rfl⟩ ?_
  obtain ⟨m, hn, hl⟩ := I.loc
  obtain ⟨u, ru, hu⟩ := hl i "self" (.ref x) hi hx (Or.inl hka)
  obtain rfl : u = Value.ref x := ru
  have hmx : m "self" = some (.ref x) := by
    rcases hu with ⟨_, h⟩ | ⟨k, c, e, z⟩
    · exact h
    · exfalso
      rcases k with k | k
      · have k' : X.env.kindOf "self" = some .cell := k
        rw [hka] at k'
        cases k'
      · have k' : X.env.kindOf "self" = some .free := k
        rw [hka] at k'
        cases k'
  rw [har]
  refine wpAny_loadName_local I.ok.kind hka hn hmx ?_
  refine ks_wpAny_isType_cls hD1 hD2 ⟨rfl, ?_⟩
  refine ks_wpAny_call_super hD1 hD2 J.at_ J.cls (fun c e => ?_) (PySem.W.looks_mroIn KX S.sub) (fun h' e k => ?_)
  · have := J.no
    unfold PySem.W.notCls at this
    rw [e] at this
    exact Bool.noConfusion this
  have I1 : Inv X pins σ H { s with heap := h' } := I.kept (t' := s.toks) k
  have KX1 := I1.kIn
  have hsup := S.sup
  unfold PySem.W.ks_superIn at hsup
  rw [hC] at hsup
  refine ks_wpAny_getMethod_super (h := h') e (PySem.W.looks_opaque KX1 S.opq) (l₀ := cd.mro) ?_ rfl KX1 hsup (k _ _ hof) hofc (PySem.W.ks_ne KX J hC) (by decide) ?_
  · exact fun A Q E s k q => wpAny_bind ((PySem.W.looks_clsIn KX1 hC) A _ E s k (wpAny_pure q))
  have I2 := ClX.met_new (g := f2) (C := x) I1
  refine ClX.callwith_cm I2 (ClX.base_none I1 (Nat.le_refl _)) S.fn2 (thn (ha.run pos _ _ σ H _ I2 hw) fun us s3 ⟨vs, H2, I3, rv, q2⟩ => ⟨⟨ClX.pin_at I3, I3.kIn⟩, ?_⟩) hst hpl
  refine thn (ClX.run_cm F hr C8.pass0 I3 rv q2) fun v s4 ⟨v2, H3, I4, r4, q4⟩ => ?_
  exact hr2.run pins s4 σ H3 D I4 q4
end
theorem PSat.nox {X : Cx} {fb body : List Stmt} {t : TS} (h : PSat X.nox fb body t) : PSat X fb body t := ⟨fun pins s σ H D I hw => ks_wpAt_mono (h.run pins s σ H D (I.wish _) hw) (fun _ _ q => q.unwish) fun _ _ z => False.elim z⟩
/-- a def of a class body that reads __class__ -/
abbrev clsNF (name qual : Str) (params : Arguments) (body : List Stmt) (scope : Scope) (cc cda : Addr) : NdefX.NF := ⟨name, qual, params, body, scope, [("__class__", cc)], cda⟩
section
variable {P : Program} {w : World} {K : PySem.W.Frag} {mg : Str → Option Value} {base : Heap}
theorem fnq_of {k : Nat} {f cc cda D : Addr} {name qual : Str} {params : Arguments} {body : List Stmt} {scope : Scope} {dV kV doc pm ct oc cl : Value} {an od cld : Option Addr} {osl csl : Array (Option Value)} {N ps : List Str} {sp : Sp}
    (lk : K.lookup f = some ⟨oc, od, .func (PySem.W.ksFn name qual params body scope dV kV doc pm an (.ref cda) ct cc), osl⟩) (hcd : PySem.W.codeIn K (.ref cda) qual = true) (lc : K.lookup cc = some ⟨cl, cld, .cell (some (.ref D)), csl⟩)
    (S : NdefX.NScope N ps ["__class__"] scope) (len : ∀ vs H Q E, sp vs H Q E → vs.length = ps.length)
    (hbody : ∀ (A : Around) (outer : List Env) (s : Shared) (H : Hp) (vs : List V) (Q : VK) (E : XK), Room k (A.deeper (NdefX.envF (clsNF name qual params body scope cc cda) f s.heap.objs.size)) → sp vs H Q E →
      ∃ t, PSat (NdefX.ncx C8.CX0 P w K mg base N (clsNF name qual params body scope cc cda) f A outer s H E).nox body body t ∧ t { nx := fun _ H' => Q .non H', rt := Q } (NdefX.startF N vs [none]) H) :
    FnOk P w K mg base C8.CX0 (k + 1) f (PySem.W.ksFn name qual params body scope dV kV doc pm an (.ref cda) ct cc) ps sp := by
  refine ⟨len, fun A outer s H args us vs Q E hr e0 hb r hsp => ?_⟩
  have hl := len _ _ _ _ hsp
  have KX : K.In s.heap := e0.mod.kin.keeps fun b o e => (e0.bs b o e).1
  have lim : s.heap.NoLimit := e0.mod.nolimit.keeps fun b o e => (e0.bs b o e).1
  refine ks_codeAny_call_defAt hr.depth (KX _ _ lk) rfl lim (PySem.W.codeRec_of KX hcd) rfl hb S.nocell (fun ⟨n, _⟩ hy => S.par n (List.of_mem_zip hy).1) (fun h₁ hns kp => ?_) S.co S.gen S.kind
  obtain ⟨t, ht, hq⟩ := hbody A outer s H vs Q E (hr.deeper _) hsp
  have C : NdefX.CellsAt [("__class__", cc)] ["__class__"] [none] s.heap H := by
    refine ⟨rfl, fun y c e => ?_, fun x y c e1 e2 => ?_, fun i y hi => ?_⟩
    · have e' : c = cc := by
        unfold List.lookup at e
        split at e
        · cases e; rfl
        · cases e
      subst e'
      obtain ⟨ob, hob⟩ : ∃ o, base.get? c = some o := ⟨_, e0.mod.kin _ _ lc⟩
      exact ⟨(e0.bs _ _ hob).2, _, _, KX _ _ lc, rfl⟩
    · have hx : ∀ z, List.lookup z [(("__class__" : Str), cc)] = some c → z = "__class__" := fun z e => by
        unfold List.lookup at e
        split at e
        · rename_i hz
          exact eq_of_beq hz
        · cases e
      rw [hx x e1, hx y e2]
    · cases i with
      | zero =>
        cases hi
        exact ⟨cc, rfl, fun v e => by cases e⟩
      | succ i => simp at hi
  have I := NdefX.inv_startN (CX := C8.CX0) (P := P) (w := w) (K := K) (mg := mg) (base := base) (F := clsNF name qual params body scope cc cda) (f := f) (E := E) (tk := s.toks + (ps.zip us).length) S hr.hd e0 hl r C hns kp
  refine ks_wpAt_mono (ht.nox.run [] _ _ H _ I hq) (fun fl s' hs => ?_) fun e s' hs => hs
  have fin : ∀ {σ' : L2.St} {H' : Hp} {v : V} {u : Value}, Inv (NdefX.ncx C8.CX0 P w K mg base N (clsNF name qual params body scope cc cda) f A outer s H E) [] σ' H' s' → L2.RelV v u → Q v H' → CE outer P w H s Q u s' :=
    fun {σ' H' v u} J rv q => ⟨v, H', J.os, J.bare, J.base, J.hok, rv, q⟩
  cases fl with
  | ret u =>
    obtain ⟨v, σ', H', J, rv, q⟩ := hs
    exact fin J rv q
  | next =>
    obtain ⟨σ', H', J, q⟩ := hs
    exact fin (v := V.non) (u := Value.none) J rfl q
  | brk =>
    obtain ⟨_, _, _, q⟩ := hs
    exact False.elim q
  | cont =>
    obtain ⟨_, _, _, q⟩ := hs
    exact False.elim q
end
end Tar

/-! TaT1 -/
set_option Elab.async false
set_option linter.all false
set_option maxRecDepth 100000
set_option maxHeartbeats 4000000
/-! members: what they are, how they are made -/
namespace Tar
open PySem PySem.Spec PyProof.Rows L2 Evl
inductive Mem where
  | file (name : List Nat) (mode time : Nat) (data : List UInt8)
  | sparse (name : List Nat) (mode time : Nat) (size : Nat) (pieces : List (Nat × List UInt8))
  | dir (name : List Nat) (mode time : Nat)
  | sym (name : List Nat) (mode time : Nat) (target : List Nat)
  | link (name : List Nat) (mode time : Nat) (target : List Nat)
structure Cs where
  file : Addr
  sparse : Addr
  dir : Addr
  sym : Addr
  link : Addr
def tFile : List Nat := [102, 105, 108, 101]
def tSparse : List Nat := [115, 112, 97, 114, 115, 101]
def tDir : List Nat := [100, 105, 114, 101, 99, 116, 111, 114, 121]
def tSym : List Nat := [115, 121, 109, 108, 105, 110, 107]
def tLink : List Nat := [108, 105, 110, 107]
namespace Mem
def name : Mem → List Nat
  | file n .. => n | sparse n .. => n | dir n .. => n | sym n .. => n | link n .. => n
def mode : Mem → Nat
  | file _ m .. => m | sparse _ m .. => m | dir _ m _ => m | sym _ m .. => m | link _ m .. => m
def time : Mem → Nat
  | file _ _ t _ => t | sparse _ _ t .. => t | dir _ _ t => t | sym _ _ t _ => t | link _ _ t _ => t
def kind : Mem → List Nat
  | file .. => tFile | sparse .. => tSparse | dir .. => tDir | sym .. => tSym | link .. => tLink
def cls (cs : Cs) : Mem → Addr
  | file .. => cs.file | sparse .. => cs.sparse | dir .. => cs.dir | sym .. => cs.sym | link .. => cs.link
/-- its own attributes, p: where the pieces stand -/
def tail (p : Addr) : Mem → List (Str × V)
  | file _ _ _ d => [("data", .byt d.toArray)]
  | sparse _ _ _ n _ => [("size", .int (n : Int)), ("pieces", .ref p)]
  | dir .. => []
  | sym _ _ _ t => [("target", .str (SX.S t))]
  | link _ _ _ t => [("target", .str (SX.S t))]
def pcs (H : Hp) (p : Addr) : Mem → Prop
  | sparse _ _ _ _ ps => PcU H p ps
  | _ => True
end Mem
def headF (n : List Nat) (m t : Nat) (key : Addr) : List (Str × V) := [("name", .str (SX.S n)), ("mode", .int (m : Int)), ("time", .int (t : Int)), ("key", .ref key)]
def keyV (k n : List Nat) (m t : Nat) (xs : List V) : List V := .str (SX.S k) :: .str (SX.S n) :: .int (m : Int) :: .int (t : Int) :: xs
/-- v is the member m -/
def MemR (cs : Cs) (m : Mem) : V → Hp → Prop := fun v H => ∃ x dx key p, v = .ref x ∧ H x = some (.ins (m.cls cs) dx (headF m.name m.mode m.time key ++ m.tail p)) ∧ H key = some (.tup (keyV m.kind m.name m.mode m.time ((m.tail p).map Prod.snd))) ∧ m.pcs H p
theorem Mem.pcs_ex {H H' : Hp} {p : Addr} {m : Mem} (e : Ex H H') (h : m.pcs H p) : m.pcs H' p := by
  cases m with
  | sparse => exact PcU.ex e h
  | _ => exact True.intro
theorem memR_sta (cs : Cs) (m : Mem) : Sta (MemR cs m) := fun v H H' e ⟨x, dx, key, p, h1, h2, h3, h4⟩ => ⟨x, dx, key, p, h1, e _ _ h2, e _ _ h3, Mem.pcs_ex e h4⟩
/-- what of the text the class at C must have -/
structure MCls (K : PySem.W.Frag) (C : Addr) (kind : List Nat) : Prop where
  cl : Cls K C
  con : ∃ u, Con K C "KIND" (.str (SX.S kind)) u
  na : ∀ f ∈ (["name", "mode", "time", "key", "data", "size", "pieces", "target"] : List Str), NoAttr K C f
/-- everything but x stays -/
def ExB (x : Addr) (H H' : Hp) : Prop := ∀ a o, a ≠ x → H a = some o → H' a = some o
theorem ExB.refl (x : Addr) (H : Hp) : ExB x H H := fun _ _ _ h => h
theorem ExB.trans {x : Addr} {H H1 H2 : Hp} (a : ExB x H H1) (b : ExB x H1 H2) : ExB x H H2 := fun c o n h => b c o n (a c o n h)
theorem ExB.of {x : Addr} {H H' : Hp} (e : Ex H H') : ExB x H H' := fun a o _ h => e a o h
theorem ExB.upd {x : Addr} {H : Hp} {o : HO} : ExB x H (upd H x o) := fun a o2 n h => by rw [upd_ne n]; exact h
theorem ExB.new {x : Addr} {H H' : Hp} (e : ExB x H H') (h : H x = none) : Ex H H' := fun a o ha => e a o (ne_of_none ha h) ha
section
variable {P : Program} {w : World} {K : PySem.W.Frag} {mg : Str → Option Value} {base : Heap}
def spMI (K : PySem.W.Frag) : Sp := fun vs H Q _ => ∃ (x dx p C : Addr) (kind name : List Nat) (mode time : Nat) (rest : List V), vs = [.ref x, .str (SX.S name), .int (mode : Int), .int (time : Int), .ref p] ∧ MCls K C kind ∧ H x = some (.ins C dx []) ∧ H p = some (.tup rest) ∧ rest.length ≤ 100 ∧
  ∀ key H', H key = none → ExB x H H' → H' x = some (.ins C dx (headF name mode time key)) → H' key = some (.tup (keyV kind name mode time rest)) → Q .non H'
theorem sc_Member___init__ : FnScope ["self", "name", "mode", "time", "more"] ["self", "name", "mode", "time", "more"] (defScope (inClass (topS 32) 1)) := ⟨rfl, rfl, rfl, by decide +kernel, rfl, by decide +kernel, by decide +kernel⟩
theorem body_member (f : Addr) (cdv : Value) (A : Around) (outer : List Env) (s : Shared) (H : Hp) (vs : List V) (Q : VK) (E : XK) (h : spMI K vs H Q E) :
      ∃ t, PSs (cxOf C8.CX0 P w K mg base ["self", "name", "mode", "time", "more"] "Member.__init__" (defScope (inClass (topS 32) 1)) f cdv A outer s H E).nox (defBody (inClass (topS 32) 1)) t ∧ t { nx := fun _ H' => Q .non H', rt := Q } (start ["self", "name", "mode", "time", "more"] vs) H := by
  obtain ⟨x, dx, p, C, kind, name, mode, time, rest, rfl, M, hx, hp, hr, q⟩ := h
  refine ⟨_, pss_cons (ps_fld (pv 0) (pv 1) rfl)
      (pss_cons (ps_fld (pv 0) (pv 2) rfl)
      (pss_cons (ps_fld (pv 0) (pv 3) rfl)
      (pss_one (ps_fld (pv 0) (pe_tup (pa_cons (pe_conK (K := K) (pv 0) rfl) (pa_cons (pv 1) (pa_cons (pv 2) (pa_cons (pv 3) (StX.pa_star (pv 4) (pa_nil))))))) rfl)))), ?_⟩
  have hpx : p ≠ x := fun e => by rw [e, hx] at hp; cases hp
  obtain ⟨u, hc⟩ := M.con
  refine ⟨_, rfl, _, rfl, x, C, dx, [], rfl, hx, M.cl, M.na _ (by simp), by decide, ?_⟩
  refine ⟨_, rfl, _, rfl, x, C, dx, _, rfl, upd_same, M.cl, M.na _ (by simp), (show (1 : Nat) < 1000 by decide), ?_⟩
  refine ⟨_, rfl, _, rfl, x, C, dx, _, rfl, upd_same, M.cl, M.na _ (by simp), (show (2 : Nat) < 1000 by decide), ?_⟩
  refine ⟨_, rfl, x, C, dx, _, _, u, rfl, upd_same, M.cl, hc, rfl, _, rfl, _, rfl, _, rfl, _, rfl, p, rest, rfl, .inl (st_of (by rw [upd_ne hpx, upd_ne hpx, upd_ne hpx]; exact hp)), ?_⟩
  refine ⟨by rw [sizeLine_eq]; simp; omega, fun key hk => ?_⟩
  have hkx : key ≠ x := fun e => by rw [e, upd_same] at hk; cases hk
  rw [upd_ne hkx, upd_ne hkx, upd_ne hkx] at hk
  refine ⟨_, rfl, x, C, dx, _, rfl, (upd_ne (Ne.symm hkx)).trans upd_same, M.cl, M.na _ (by simp), (show (3 : Nat) < 1000 by decide), ?_⟩
  refine q key _ hk (fun a o na ha => ?_) upd_same ?_
  · rw [upd_ne na, upd_ne (ne_of_none ha hk), upd_ne na, upd_ne na, upd_ne na]
    exact ha
  · rw [upd_ne hkx, upd_same, List.append_nil]
    rfl
end
end Tar

/-! TaT2 -/
set_option Elab.async false
set_option linter.all false
set_option maxRecDepth 100000
set_option maxHeartbeats 4000000
/-! members: Member.__init__ as a callee, the five __init__ -/
namespace Tar
open PySem PySem.Spec PyProof.Rows L2 Evl
section
variable {P : Program} {w : World} {K : PySem.W.Frag} {mg : Str → Option Value} {base : Heap}
def spMember (K : PySem.W.Frag) : Sp := fun vs H Q E => ∃ ws rest, vs = ws ++ rest ∧ ws.length = (["self", "name", "mode", "time"] : List Str).length ∧ rest.length ≤ sizeLine ∧ ∀ p, H p = Option.none → spMI K (ws ++ [V.ref p]) (upd H p (.tup rest)) Q E
theorem ok_member {f : Addr} {fd : FuncData} (F : FunD K "__init__" "Member.__init__" (defArgs (inClass (topS 32) 1)) (defBody (inClass (topS 32) 1)) (defScope (inClass (topS 32) 1)) [] [] f fd) : FnR P w K mg base C8.CX0 1 f (spMember K) := by
  obtain ⟨oc, od, dV, kV, doc, pm, an, cdv, ct, osl, rfl, lk, hcd, hD, hK⟩ := F.ex
  rcases hD with ⟨_, rfl⟩ | ⟨e, _⟩
  · refine StX.fn_star (k := 0) (ps := ["self", "name", "mode", "time"]) (pv := "more") (sp := spMI K) lk hcd sc_Member___init__ StX.cxUp_none (fun us rest hl => ?_) fun A outer s H vs Q E hr hs => ?_
    · match us, hl, rest with
      | [a, b, c, d], _, [] => rfl
      | [a, b, c, d], _, r :: rs => rfl
    · obtain ⟨t, ht, q⟩ := body_member f cdv A outer s H vs Q E hs
      exact ⟨t, ht.nox, q⟩
  · exact absurd rfl e
/-- super().__init__(name, mode, time, extra ..) from where the instance stands -/
theorem q_sup {C x dx : Addr} {kind name : List Nat} {mode time : Nat} {rest : List V} {i : Nat} {ta : TA} {u : TS} {D : Ends} {σ : L2.St} {H : Hp} (M : MCls K C kind) (hi : σ[i]? = some (some (.ref x))) (hx : H x = some (.ins C dx [])) (hr : rest.length ≤ 100)
    (ha : EvA ta σ H (.str (SX.S name) :: .int (mode : Int) :: .int (time : Int) :: rest))
    (k : ∀ key H', H key = none → ExB x H H' → H' x = some (.ins C dx (headF name mode time key)) → H' key = some (.tup (keyV kind name mode time rest)) → u D σ H') : tSeq (tSup i C (spMember K) ta) u D σ H := by
  refine ⟨x, dx, [], hi, hx, EvA.go ha fun H1 e1 => ⟨[.ref x, .str (SX.S name), .int (mode : Int), .int (time : Int)], rest, rfl, rfl, by rw [sizeLine_eq]; omega, fun p hp => ?_⟩⟩
  have hpx : p ≠ x := fun e => by rw [e, e1 _ _ hx] at hp; cases hp
  refine ⟨x, dx, p, C, kind, name, mode, time, rest, rfl, M, by rw [upd_ne (Ne.symm hpx)]; exact e1 _ _ hx, upd_same, hr, fun key H' hk e h1 h2 => ?_⟩
  have e0 : Ex H (upd H1 p (.tup rest)) := e1.trans (Ex.new hp)
  exact k key H' (fresh_back e0 hk) ((ExB.of e0).trans e) h1 h2
def qual (x : String) : Str := Str.ofString (x ++ ".__init__")
/-- the __init__ of the class at C as it stands behind the top: its def at f, the cell that holds C, its code -/
structure CD (P : Program) (K : PySem.W.Frag) (q : Str) (st : Stmt) (kws : List (Str × V)) (f C f2 : Addr) : Prop where
  ex : ∃ (cc cda : Addr) (oc : Value) (od : Option Addr) (kV doc pm : Value) (an : Option Addr) (ct : Value) (osl : Array (Option Value)),
    K.lookup f = some ⟨oc, od, .func (PySem.W.ksFn "__init__" q (defArgs st) (defBody st) (defScope st) .none kV doc pm an (.ref cda) ct cc), osl⟩ ∧ PySem.W.codeIn K (.ref cda) q = true ∧ KwdV K kV kws ∧ SupK P K f cc cda C f2
  mkk : Mk K C f
def spFileI (cs : Cs) : Sp := fun vs H Q _ => ∃ (x dx : Addr) (name : List Nat) (data : List UInt8) (mode time : Nat), vs = [.ref x, .str (SX.S name), .byt data.toArray, .int (mode : Int), .int (time : Int)] ∧ H x = some (.ins cs.file dx []) ∧ nmT name = true ∧ data.length ≤ 4096 ∧ mode ≤ 4095 ∧ time ≤ 8589934591 ∧
  ∀ H', ExB x H H' → MemR cs (.file name mode time data) (.ref x) H' → Q .non H'
theorem nsc_File : NdefX.NScope ["self", "name", "data", "mode", "time", "__class__"] ["self", "name", "data", "mode", "time"] ["__class__"] (defScope (inClass (topS 33) 1)) := NdefX.nscope_by (by decide +kernel)
/-- C(..) by its name, n values and the keywords mode, time -/
structure MakN (P : Program) (w : World) (K : PySem.W.Frag) (mg : Str → Option Value) (base : Heap) (k : Nat) (x : Str) (C : Addr) (sp : Sp) (n : Nat) : Prop where
  ex : ∃ (f : Addr) (fd : FuncData) (ps : List Str) (g : List Value → List Value → List Value), Mk K C f ∧ FnOk P w K mg base C8.CX0 k f fd ps sp ∧ mg x = some (.ref C) ∧ KBn K fd ps (n + 1) ["mode", "time"] g (fun vs zs => vs ++ zs)
theorem ok_File {cs : Cs} {f f2 : Addr} (g : GF K mg) (c_look_name : C8.Cal P w K mg base 2 "look_name" (spLookName) []) (c_look_stamps : C8.Cal P w K mg base 3 "look_stamps" (spLookStamps) []) (D : CD P K "File.__init__" (inClass (topS 33) 1) [("mode", .int 420), ("time", .int 0)] f cs.file f2) (M : MCls K cs.file tFile) (hm : mg "File" = some (.ref cs.file)) (F2 : FnR P w K mg base C8.CX0 1 f2 (spMember K)) : MakN P w K mg base 4 "File" cs.file (spFileI cs) 2 := by
  obtain ⟨cc, cda, oc, od, kV, doc, pm, an, ct, osl, lk, hcd, hkw, S⟩ := D.ex
  obtain ⟨cl, cld, csl, lcell⟩ := S.lcell
  refine ⟨f, _, ["self", "name", "data", "mode", "time"], fun us ws => us ++ ws, D.mkk, fnq_of (k := 3) lk hcd lcell nsc_File (fun vs H Q E h => by obtain ⟨x, dx, name, data, mode, time, rfl, _⟩ := h; rfl) (fun A outer s H vs Q E hr h => ?_), hm, ⟨fun s us ws X l1 l2 => ?_, fun r1 r2 => r1.append r2⟩⟩
  · have hu := hr.units
    obtain ⟨x, dx, name, data, mode, time, rfl, hx, hn, hd, hmo, hti, q⟩ := h
    refine ⟨_, psat_cons (ps_expr (C8.pe_c c_look_name hr (by decide) rfl (pa_cons (pv 1) pa_nil)))
      (psat_cons (ps_if (PW.pt (pw_or (pt_not (pt_val (pe_callB (cr_isiX (K := K)) rfl g.n_isinstance bo_isinstance (pa_cons (pv 2) (pa_cons (pe_bltn (v := .ty "bytes") rfl g.n_bytes bo_bytes rfl) pa_nil))))) (pw_or1 (pt_cmpR op_gt (pe_callB (cr_lenX (K := K)) rfl g.n_len bo_len (pa_cons (pv 2) pa_nil)) (C8.pe_gc rfl g.c_MOST_DATA) (nomark _))))) pss_never pss_nil)
      (psat_cons (ps_expr (C8.pe_c c_look_stamps hr (by decide) rfl (pa_cons (pv 3) (pa_cons (pv 4) pa_nil))))
      (psat_super (i := 0) S F2 (hr.mono (by decide)) g.n_super rfl rfl rfl rfl rfl rfl rfl (pa_cons (pv 1) (pa_cons (pv 3) (pa_cons (pv 4) (pa_cons (pv 2) pa_nil))))
      (psat_of (pss_one (ps_fld (pv 0) (pv 2) rfl)))))), ?_⟩
    refine q_drop (ev_call (ea_cons (ev_var rfl) ea_nil) (Ret.sp fun H1 e Q E q => ⟨name, rfl, hn, q⟩)) fun H1 e1 => ?_
    refine q_when (b := false) (et_is (et_or (et_not (et_B (ev_cb (ea_cons (ev_var rfl) (ea_cons ev_c ea_nil)) (isi_byt ki5)))) fun _ => et_test (ev_op (ev_cb1 (ev_var rfl) (rc_lenY (by omega))) ev_c rv_gt)) ?_) (fun h => by cases h) fun _ H2 e2 => ?_
    · show (false || decide ((4096 : Int) < (data.length : Int))) = false
      rw [Bool.false_or, decide_eq_false_iff_not]
      omega
    refine q_drop (ev_call (ea_cons (ev_var rfl) (ea_cons (ev_var rfl) ea_nil)) (Ret.sp fun H1 e Q E q => ⟨mode, time, rfl, hmo, hti, q⟩)) fun H3 e3 => ?_
    have e13 := (e1.trans e2).trans e3
    refine q_sup (rest := [.byt data.toArray]) M rfl (e13 _ _ hx) (by simp) (ea_cons (ev_var rfl) (ea_cons (ev_var rfl) (ea_cons (ev_var rfl) (ea_cons (ev_var rfl) ea_nil)))) fun key H4 hk e4 h1 h2 => ?_
    have hkx : key ≠ x := fun e => by rw [e, e13 _ _ hx] at hk; cases hk
    refine ⟨_, rfl, _, rfl, x, cs.file, dx, _, rfl, h1, M.cl, M.na _ (by simp), (show (4 : Nat) < 1000 by decide), ?_⟩
    exact q _ (((ExB.of e13).trans e4).trans ExB.upd) ⟨x, dx, key, 0, rfl, upd_same, by rw [upd_ne hkx]; exact h2, True.intro⟩
  · refine .of_eq ?_
    match us, ws, l1, l2 with
    | [a, b, c], [d, e], _, _ => rfl
def spDirI (cs : Cs) : Sp := fun vs H Q _ => ∃ (x dx : Addr) (name : List Nat) (mode time : Nat), vs = [.ref x, .str (SX.S name), .int (mode : Int), .int (time : Int)] ∧ H x = some (.ins cs.dir dx []) ∧ nmT name = true ∧ mode ≤ 4095 ∧ time ≤ 8589934591 ∧
  ∀ H', ExB x H H' → MemR cs (.dir name mode time) (.ref x) H' → Q .non H'
theorem nsc_Directory : NdefX.NScope ["self", "name", "mode", "time", "__class__"] ["self", "name", "mode", "time"] ["__class__"] (defScope (inClass (topS 35) 1)) := NdefX.nscope_by (by decide +kernel)
theorem ok_Directory {cs : Cs} {f f2 : Addr} (g : GF K mg) (c_look_name : C8.Cal P w K mg base 2 "look_name" (spLookName) []) (c_look_stamps : C8.Cal P w K mg base 3 "look_stamps" (spLookStamps) []) (D : CD P K "Directory.__init__" (inClass (topS 35) 1) [("mode", .int 493), ("time", .int 0)] f cs.dir f2) (M : MCls K cs.dir tDir) (hm : mg "Directory" = some (.ref cs.dir)) (F2 : FnR P w K mg base C8.CX0 1 f2 (spMember K)) : MakN P w K mg base 4 "Directory" cs.dir (spDirI cs) 1 := by
  obtain ⟨cc, cda, oc, od, kV, doc, pm, an, ct, osl, lk, hcd, hkw, S⟩ := D.ex
  obtain ⟨cl, cld, csl, lcell⟩ := S.lcell
  refine ⟨f, _, ["self", "name", "mode", "time"], fun us ws => us ++ ws, D.mkk, fnq_of (k := 3) lk hcd lcell nsc_Directory (fun vs H Q E h => by obtain ⟨x, dx, name, mode, time, rfl, _⟩ := h; rfl) (fun A outer s H vs Q E hr h => ?_), hm, ⟨fun s us ws X l1 l2 => ?_, fun r1 r2 => r1.append r2⟩⟩
  · have hu := hr.units
    obtain ⟨x, dx, name, mode, time, rfl, hx, hn, hmo, hti, q⟩ := h
    refine ⟨_, psat_cons (ps_expr (C8.pe_c c_look_name hr (by decide) rfl (pa_cons (pv 1) pa_nil)))
      (psat_cons (ps_expr (C8.pe_c c_look_stamps hr (by decide) rfl (pa_cons (pv 2) (pa_cons (pv 3) pa_nil))))
      (psat_super (i := 0) S F2 (hr.mono (by decide)) g.n_super rfl rfl rfl rfl rfl rfl rfl (pa_cons (pv 1) (pa_cons (pv 2) (pa_cons (pv 3) pa_nil)))
      (psat_of pss_nil))), ?_⟩
    refine q_drop (ev_call (ea_cons (ev_var rfl) ea_nil) (Ret.sp fun H1 e Q E q => ⟨name, rfl, hn, q⟩)) fun H1 e1 => ?_
    refine q_drop (ev_call (ea_cons (ev_var rfl) (ea_cons (ev_var rfl) ea_nil)) (Ret.sp fun H1 e Q E q => ⟨mode, time, rfl, hmo, hti, q⟩)) fun H3 e3 => ?_
    have e13 := e1.trans e3
    refine q_sup (rest := []) M rfl (e13 _ _ hx) (by simp) (ea_cons (ev_var rfl) (ea_cons (ev_var rfl) (ea_cons (ev_var rfl) ea_nil))) fun key H4 hk e4 h1 h2 => ?_
    exact q _ ((ExB.of e13).trans e4) ⟨x, dx, key, 0, rfl, h1, h2, True.intro⟩
  · refine .of_eq ?_
    match us, ws, l1, l2 with
    | [a, b], [d, e], _, _ => rfl
def spSymI (cs : Cs) : Sp := fun vs H Q _ => ∃ (x dx : Addr) (name target : List Nat) (mode time : Nat), vs = [.ref x, .str (SX.S name), .str (SX.S target), .int (mode : Int), .int (time : Int)] ∧ H x = some (.ins cs.sym dx []) ∧ nmT name = true ∧ nmT target = true ∧ mode ≤ 4095 ∧ time ≤ 8589934591 ∧
  ∀ H', ExB x H H' → MemR cs (.sym name mode time target) (.ref x) H' → Q .non H'
theorem nsc_Symlink : NdefX.NScope ["self", "name", "target", "mode", "time", "__class__"] ["self", "name", "target", "mode", "time"] ["__class__"] (defScope (inClass (topS 36) 1)) := NdefX.nscope_by (by decide +kernel)
theorem ok_Symlink {cs : Cs} {f f2 : Addr} (g : GF K mg) (c_look_name : C8.Cal P w K mg base 2 "look_name" (spLookName) []) (c_look_stamps : C8.Cal P w K mg base 3 "look_stamps" (spLookStamps) []) (D : CD P K "Symlink.__init__" (inClass (topS 36) 1) [("mode", .int 511), ("time", .int 0)] f cs.sym f2) (M : MCls K cs.sym tSym) (hm : mg "Symlink" = some (.ref cs.sym)) (F2 : FnR P w K mg base C8.CX0 1 f2 (spMember K)) : MakN P w K mg base 4 "Symlink" cs.sym (spSymI cs) 2 := by
  obtain ⟨cc, cda, oc, od, kV, doc, pm, an, ct, osl, lk, hcd, hkw, S⟩ := D.ex
  obtain ⟨cl, cld, csl, lcell⟩ := S.lcell
  refine ⟨f, _, ["self", "name", "target", "mode", "time"], fun us ws => us ++ ws, D.mkk, fnq_of (k := 3) lk hcd lcell nsc_Symlink (fun vs H Q E h => by obtain ⟨x, dx, name, target, mode, time, rfl, _⟩ := h; rfl) (fun A outer s H vs Q E hr h => ?_), hm, ⟨fun s us ws X l1 l2 => ?_, fun r1 r2 => r1.append r2⟩⟩
  · have hu := hr.units
    obtain ⟨x, dx, name, target, mode, time, rfl, hx, hn, hn2, hmo, hti, q⟩ := h
    refine ⟨_, psat_cons (ps_expr (C8.pe_c c_look_name hr (by decide) rfl (pa_cons (pv 1) pa_nil)))
      (psat_cons (ps_expr (C8.pe_c c_look_name hr (by decide) rfl (pa_cons (pv 2) pa_nil)))
      (psat_cons (ps_expr (C8.pe_c c_look_stamps hr (by decide) rfl (pa_cons (pv 3) (pa_cons (pv 4) pa_nil))))
      (psat_super (i := 0) S F2 (hr.mono (by decide)) g.n_super rfl rfl rfl rfl rfl rfl rfl (pa_cons (pv 1) (pa_cons (pv 3) (pa_cons (pv 4) (pa_cons (pv 2) pa_nil))))
      (psat_of (pss_one (ps_fld (pv 0) (pv 2) rfl)))))), ?_⟩
    refine q_drop (ev_call (ea_cons (ev_var rfl) ea_nil) (Ret.sp fun H1 e Q E q => ⟨name, rfl, hn, q⟩)) fun H1 e1 => ?_
    refine q_drop (ev_call (ea_cons (ev_var rfl) ea_nil) (Ret.sp fun H1 e Q E q => ⟨target, rfl, hn2, q⟩)) fun H2 e2 => ?_
    refine q_drop (ev_call (ea_cons (ev_var rfl) (ea_cons (ev_var rfl) ea_nil)) (Ret.sp fun H1 e Q E q => ⟨mode, time, rfl, hmo, hti, q⟩)) fun H3 e3 => ?_
    have e13 := (e1.trans e2).trans e3
    refine q_sup (rest := [.str (SX.S target)]) M rfl (e13 _ _ hx) (by simp) (ea_cons (ev_var rfl) (ea_cons (ev_var rfl) (ea_cons (ev_var rfl) (ea_cons (ev_var rfl) ea_nil)))) fun key H4 hk e4 h1 h2 => ?_
    have hkx : key ≠ x := fun e => by rw [e, e13 _ _ hx] at hk; cases hk
    refine ⟨_, rfl, _, rfl, x, cs.sym, dx, _, rfl, h1, M.cl, M.na _ (by simp), (show (4 : Nat) < 1000 by decide), ?_⟩
    exact q _ (((ExB.of e13).trans e4).trans ExB.upd) ⟨x, dx, key, 0, rfl, upd_same, by rw [upd_ne hkx]; exact h2, True.intro⟩
  · refine .of_eq ?_
    match us, ws, l1, l2 with
    | [a, b, c], [d, e], _, _ => rfl
def spLinkI (cs : Cs) : Sp := fun vs H Q _ => ∃ (x dx : Addr) (name target : List Nat) (mode time : Nat), vs = [.ref x, .str (SX.S name), .str (SX.S target), .int (mode : Int), .int (time : Int)] ∧ H x = some (.ins cs.link dx []) ∧ nmT name = true ∧ nmT target = true ∧ mode ≤ 4095 ∧ time ≤ 8589934591 ∧
  ∀ H', ExB x H H' → MemR cs (.link name mode time target) (.ref x) H' → Q .non H'
theorem nsc_Link : NdefX.NScope ["self", "name", "target", "mode", "time", "__class__"] ["self", "name", "target", "mode", "time"] ["__class__"] (defScope (inClass (topS 37) 1)) := NdefX.nscope_by (by decide +kernel)
theorem ok_Link {cs : Cs} {f f2 : Addr} (g : GF K mg) (c_look_name : C8.Cal P w K mg base 2 "look_name" (spLookName) []) (c_look_stamps : C8.Cal P w K mg base 3 "look_stamps" (spLookStamps) []) (D : CD P K "Link.__init__" (inClass (topS 37) 1) [("mode", .int 420), ("time", .int 0)] f cs.link f2) (M : MCls K cs.link tLink) (hm : mg "Link" = some (.ref cs.link)) (F2 : FnR P w K mg base C8.CX0 1 f2 (spMember K)) : MakN P w K mg base 4 "Link" cs.link (spLinkI cs) 2 := by
  obtain ⟨cc, cda, oc, od, kV, doc, pm, an, ct, osl, lk, hcd, hkw, S⟩ := D.ex
  obtain ⟨cl, cld, csl, lcell⟩ := S.lcell
  refine ⟨f, _, ["self", "name", "target", "mode", "time"], fun us ws => us ++ ws, D.mkk, fnq_of (k := 3) lk hcd lcell nsc_Link (fun vs H Q E h => by obtain ⟨x, dx, name, target, mode, time, rfl, _⟩ := h; rfl) (fun A outer s H vs Q E hr h => ?_), hm, ⟨fun s us ws X l1 l2 => ?_, fun r1 r2 => r1.append r2⟩⟩
  · have hu := hr.units
    obtain ⟨x, dx, name, target, mode, time, rfl, hx, hn, hn2, hmo, hti, q⟩ := h
    refine ⟨_, psat_cons (ps_expr (C8.pe_c c_look_name hr (by decide) rfl (pa_cons (pv 1) pa_nil)))
      (psat_cons (ps_expr (C8.pe_c c_look_name hr (by decide) rfl (pa_cons (pv 2) pa_nil)))
      (psat_cons (ps_expr (C8.pe_c c_look_stamps hr (by decide) rfl (pa_cons (pv 3) (pa_cons (pv 4) pa_nil))))
      (psat_super (i := 0) S F2 (hr.mono (by decide)) g.n_super rfl rfl rfl rfl rfl rfl rfl (pa_cons (pv 1) (pa_cons (pv 3) (pa_cons (pv 4) (pa_cons (pv 2) pa_nil))))
      (psat_of (pss_one (ps_fld (pv 0) (pv 2) rfl)))))), ?_⟩
    refine q_drop (ev_call (ea_cons (ev_var rfl) ea_nil) (Ret.sp fun H1 e Q E q => ⟨name, rfl, hn, q⟩)) fun H1 e1 => ?_
    refine q_drop (ev_call (ea_cons (ev_var rfl) ea_nil) (Ret.sp fun H1 e Q E q => ⟨target, rfl, hn2, q⟩)) fun H2 e2 => ?_
    refine q_drop (ev_call (ea_cons (ev_var rfl) (ea_cons (ev_var rfl) ea_nil)) (Ret.sp fun H1 e Q E q => ⟨mode, time, rfl, hmo, hti, q⟩)) fun H3 e3 => ?_
    have e13 := (e1.trans e2).trans e3
    refine q_sup (rest := [.str (SX.S target)]) M rfl (e13 _ _ hx) (by simp) (ea_cons (ev_var rfl) (ea_cons (ev_var rfl) (ea_cons (ev_var rfl) (ea_cons (ev_var rfl) ea_nil)))) fun key H4 hk e4 h1 h2 => ?_
    have hkx : key ≠ x := fun e => by rw [e, e13 _ _ hx] at hk; cases hk
    refine ⟨_, rfl, _, rfl, x, cs.link, dx, _, rfl, h1, M.cl, M.na _ (by simp), (show (4 : Nat) < 1000 by decide), ?_⟩
    exact q _ (((ExB.of e13).trans e4).trans ExB.upd) ⟨x, dx, key, 0, rfl, upd_same, by rw [upd_ne hkx]; exact h2, True.intro⟩
  · refine .of_eq ?_
    match us, ws, l1, l2 with
    | [a, b, c], [d, e], _, _ => rfl
/-! ### making members by their names -/
end
section
variable {X : Cx} {k j n : Nat} {x : Str} {C : Addr} {sp : Sp} {p pos : Pos} {e : Expr} {es : List Expr} {kws : List Keyword} {t tk : TA}
theorem pe_mkN (c : MakN X.prog X.w X.K X.mg X.base k x C sp n) (hr : Room j X.A) (hk : k + 1 ≤ j) (hg : Gl X x) (ha : PA X (e :: es) t) (hkw : PK X kws tk)
    (hall : (backToKw pos (keywordEach kws X.env)).all (·.1.isSome) = true := by rfl) (hks : (backToKw pos (keywordEach kws X.env)).filterMap (·.1) = ([("mode" : Str), ("time" : Str)] : List Str) := by rfl)
    (hdb : (x == ("__debug__" : Str)) = false := by decide) (he : starEach (e :: es) X.env = (false, eval e X.env) :: starEach es X.env := by rfl)
    (hpl : ((backTo pos (starEach (e :: es) X.env)).any (·.1) || (backToKw pos (keywordEach kws X.env)).any (·.1.isNone)) = false := by rfl) :
    PE X (.Call (.Name x p) (e :: es) kws pos) (tMakeN C n 2 sp (fun vs zs => vs ++ zs) C8.E0 t tk) := by
  obtain ⟨f, fd, ps, g, M, F, m, b⟩ := c.ex
  exact pe_makeN M F (hr.mono hk) hg m b C8.pass0 ha hkw hall hks hdb he hpl
end
section
variable {σ : L2.St} {H : Hp}
/-- a new instance, told by what its __init__ promises -/
theorem er_mkN {C : Addr} {n : Nat} {sp : Sp} {t tk : TA} {vs zs : List V} {cs : Cs} {m : Mem} (h : EvA t σ H vs) (hk : EvA tk σ H zs) (l1 : vs.length = n) (l2 : zs.length = 2)
    (hs : ∀ (x dx : Addr) (H1 : Hp) (Q : VK), H1 x = some (.ins C dx []) → (∀ H', ExB x H1 H' → MemR cs m (.ref x) H' → Q .non H') → sp (.ref x :: (vs ++ zs)) H1 Q C8.E0) : Er (tMakeN C n 2 sp (fun vs zs => vs ++ zs) C8.E0 t tk) σ H (MemR cs m) := fun H1 e Q q =>
  h H1 e _ fun H2 e2 => hk H2 (e.trans e2) _ fun H3 e3 => ⟨l1, l2, fun x dx hx hdx hne => hs x dx _ _ upd_same fun H' e4 hm => ⟨rfl, q _ _ ((e2.trans e3).trans fun a o ha => e4 a o (ne_of_none ha hx) (by rw [upd_ne (ne_of_none ha hx), upd_ne (ne_of_none ha hdx)]; exact ha)) hm⟩⟩
end
end Tar

/-! TaT3 -/
set_option Elab.async false
set_option linter.all false
set_option maxRecDepth 100000
set_option maxHeartbeats 4000000
/-! members: Sparse(name, size, *pieces, mode=.., time=..) -/
namespace Tar
open PySem PySem.Spec PyProof.Rows L2 Evl
section
open PySem.W PySem.Calls
/-- a call with stars and keywords -/
theorem call_starKw {M : Model} {A : Around} {E : Value → Shared → Prop} {s : Shared} {f : Value} {first : List Value} {pos : Pos} {Q : Value → Shared → Prop} {P : Heap → Prop} {args : List (Bool × Sem Value)} {kws : List (Option Str × Sem Value)} (hst : args.any (·.1) = true)
    (hk : ∀ h, P h → ∃ k, (k = Keeper.frame ∨ k = Keeper.machine ∨ k = Keeper.boundFrame) ∧ Looks M h (keeperOf f) k)
    (h : wpAny M A (evalArgs f true args kws) (fun a s₁ => P s₁.heap ∧ wpAny M A (call f (first ++ a.pos) a.kw) Q E s₁) E s) : wpAny M A (callWith pos f first args kws) Q E s := by
  unfold callWith
  refine wpAny_bind (wpAny_holding (wpAny_mono h (fun a s₁ h₁ => wpAny_bind (wpAny_standAt ?_)) fun _ _ x => x))
  obtain ⟨k, hk', L⟩ := hk _ h₁.1
  simp only [hst, Bool.true_or]
  refine wpAny_bind (L.here ?_)
  have tail : ∀ {t : Sem Value}, wpAny M A t Q E s₁ → wpAny M A (t >>= fun r => holding [r] point >>= fun _ => pure r) Q E s₁ :=
    fun ht => wpAny_bind (wpAny_mono ht (fun r s₂ hr => wpAny_bind (wpAny_holding (wpAny_point (wpAny_pure hr)))) fun _ _ x => x)
  have marked (mk : Value) : wpAny M A (callMarked mk f (first ++ a.pos) a.kw) Q E s₁ := by unfold callMarked; exact Calls.wpAny_keep h₁.2
  rcases hk' with rfl | rfl | rfl <;> dsimp only <;> first | exact tail (marked _) | exact tail (wpAny_operating h₁.2)
end
abbrev Sp2 := List V → List V → Hp → VK → Prop
def tMakeS (C : Addr) (sp : Sp2) (t tk : TA) : TE := fun σ H Q => t σ H fun vs H1 => tk σ H1 fun zs H2 => ∀ x dx, H2 x = none → H2 dx = none → dx ≠ x → sp (.ref x :: vs) zs (upd (upd H2 dx (.own x)) x (.ins C dx [])) (fun v H3 => v = .non ∧ Q (.ref x) H3)
structure MakS (P : Program) (w : World) (K : PySem.W.Frag) (mg : Str → Option Value) (base : Heap) (k : Nat) (x : Str) (C : Addr) (sp : Sp2) : Prop where
  ex : ∃ f : Addr, Mk K C f ∧ mg x = some (.ref C) ∧ ∀ (A : Around) (outer : List Env) (s : Shared) (H : Hp) (us ws : List Value) (vs zs : List V) (Q : VK), Room k A → Env0 P w K mg base A outer s H → Vals vs us → Vals zs ws → sp vs zs H Q →
    codeAny (model P w) A (.call (.ref f) ⟨us, ([("mode" : Str), ("time" : Str)] : List Str).zip ws⟩) (CR C8.CX0 outer P w H s Q C8.E0) s
section
variable {X : Cx} {k j : Nat} {x : Str} {C : Addr} {sp : Sp2} {p pos : Pos} {e : Expr} {es : List Expr} {kws : List Keyword} {t tk : TA}
theorem pe_mkS (c : MakS X.prog X.w X.K X.mg X.base k x C sp) (hr : Room j X.A) (hk : k + 1 ≤ j) (hg : Gl X x) (ha : PA X (e :: es) t) (hkw : PK X kws tk)
    (hall : (backToKw pos (keywordEach kws X.env)).all (·.1.isSome) = true := by rfl) (hks : (backToKw pos (keywordEach kws X.env)).filterMap (·.1) = ([("mode" : Str), ("time" : Str)] : List Str) := by rfl)
    (hdb : (x == ("__debug__" : Str)) = false := by decide) (he : starEach (e :: es) X.env = (false, eval e X.env) :: starEach es X.env := by rfl) (hst : (backTo pos (starEach (e :: es) X.env)).any (·.1) = true := by rfl) :
    PE X (.Call (.Name x p) (e :: es) kws pos) (tMakeS C sp t tk) := by
  obtain ⟨f, M, hm, F⟩ := c.ex
  refine ⟨fun pins s σ H Q I h => ?_⟩
  refine wpAny_Call_Name_kw (ld_glob I hg hm ?_ hdb)
  refine call_starKw hst (PySem.W.keeps_K M.kp) (evalArgs_kw2 hall (thn (ha.run pos pins s σ H _ I h) fun us s1 ⟨vs, H1, I1, r, q⟩ => ?_) he)
  refine thn (hkw.run pos pins s1 σ H1 _ I1 q) fun ws s2 ⟨zs, H2, I2, rz, q2⟩ => ⟨I2.kIn, ?_⟩
  rw [hks]
  have hq := q2 (s2.heap.objs.size + 1) s2.heap.objs.size (I2.hok.fresh (Nat.le_succ _)) (I2.hok.fresh (Nat.le_refl _)) (Nat.ne_of_lt (Nat.lt_succ_self _))
  have I3 := Inv.made (C := C) I2
  have r1 : Vals (V.ref (s2.heap.objs.size + 1) :: vs) (Value.ref (s2.heap.objs.size + 1) :: us) := .cons rfl r
  have hr3 := (hr.mono hk).make C us (([("mode" : Str), ("time" : Str)] : List Str).zip ws)
  refine wpAny_call (make_map (f := f) I2.kIn M.makes M.init (beq_iff_eq.mp M.fn) (codeAny_mono (F _ X.stack _ _ (Value.ref (s2.heap.objs.size + 1) :: us) ws _ _ _ hr3 (I3.env0.make C us (([("mode" : Str), ("time" : Str)] : List Str).zip ws)) r1 rz hq) fun r s' hq' => ?_))
  cases r with
  | error e => exact hq'.elim
  | ok fl =>
    cases fl with
    | ret u =>
      obtain ⟨v, H', I4, rv, ev, q3⟩ := I3.after hq'
      subst ev
      exact ⟨rv, ⟨V.ref (s2.heap.objs.size + 1), H', I4, rfl, q3⟩⟩
    | next => exact False.elim hq'
    | brk => exact False.elim hq'
    | cont => exact False.elim hq'
end
section
variable {P : Program} {w : World} {K : PySem.W.Frag} {mg : Str → Option Value} {base : Heap}
theorem runq_bnd {k : Nat} {f cc cda D : Addr} {name qual : Str} {params : Arguments} {body : List Stmt} {scope : Scope} {dV kV doc pm ct oc cl : Value} {an od cld : Option Addr} {osl csl : Array (Option Value)} {N ps : List Str} {A : Around} {outer : List Env} {s : Shared} {H : Hp} {args : Args} {Q : VK} {E : XK} {G : List V → Hp → Prop}
    (lk : K.lookup f = some ⟨oc, od, .func (PySem.W.ksFn name qual params body scope dV kV doc pm an (.ref cda) ct cc), osl⟩) (hcd : PySem.W.codeIn K (.ref cda) qual = true) (lc : K.lookup cc = some ⟨cl, cld, .cell (some (.ref D)), csl⟩)
    (S : NdefX.NScope N ps ["__class__"] scope) (hr : Room (k + 1) A) (e0 : Env0 P w K mg base A outer s H) (hb : StX.Bnd C8.CX0 P w K mg base (PySem.W.ksFn name qual params body scope dV kV doc pm an (.ref cda) ct cc) args ps A outer s H E G)
    (hbody : ∀ (s2 : Shared) (H2 : Hp) (vs : List V), G vs H2 → Room k (A.deeper (NdefX.envF (clsNF name qual params body scope cc cda) f s2.heap.objs.size)) →
      ∃ t, PSat (NdefX.ncx C8.CX0 P w K mg base N (clsNF name qual params body scope cc cda) f A outer s2 H2 E).nox body body t ∧ t { nx := fun _ H' => Q .non H', rt := Q } (NdefX.startF N vs [none]) H2) : codeAny (model P w) A (.call (.ref f) args) (CR C8.CX0 outer P w H s Q E) s := by
  have KX : K.In s.heap := e0.mod.kin.keeps fun b o e => (e0.bs b o e).1
  refine codeAny_call_function hr.depth (KX _ _ lk) rfl S.co S.gen rfl (PySem.W.codeRec_of KX hcd) ?_
  refine hb _ _ _ fun s2 H2 vs us e2 un ho hx r hl g => ?_
  have lim : s2.heap.NoLimit := e0.mod.nolimit.keeps fun b o e => (e2.bs b o e).1
  have KX2 : K.In s2.heap := e2.mod.kin.keeps fun b o e => (e2.bs b o e).1
  refine wpAny_newFunctionEnv (s := s2) S.nocell (fun ⟨n, _⟩ hy => S.par n (List.of_mem_zip hy).1) (fun h₁ hns hsb => ⟨lim.fresh _ hsb, ?_⟩) S.kind
  show codeAny _ _ (.func body (NdefX.envF (clsNF name qual params body scope cc cda) f s2.heap.objs.size)) _ _
  refine ks_codeAny_funcAt ?_
  have kp : ∀ b o, s2.heap.get? b = some o → h₁.get? b = some o := fun b o e => hsb.extBut b o (Nat.ne_of_lt (Heap.lt_size e)) (Heap.get?_push_of_some _ e)
  obtain ⟨t, ht, hq⟩ := hbody s2 H2 vs g (hr.deeper _)
  have C : NdefX.CellsAt [("__class__", cc)] ["__class__"] [none] s2.heap H2 := by
    refine ⟨rfl, fun y c e => ?_, fun x y c e1 e2 => ?_, fun i y hi => ?_⟩
    · have e' : c = cc := by
        unfold List.lookup at e
        split at e
        · cases e; rfl
        · cases e
      subst e'
      obtain ⟨ob, hob⟩ : ∃ o, base.get? c = some o := ⟨_, e0.mod.kin _ _ lc⟩
      exact ⟨(e2.bs _ _ hob).2, _, _, KX2 _ _ lc, rfl⟩
    · have hx : ∀ z, List.lookup z [(("__class__" : Str), cc)] = some c → z = "__class__" := fun z e => by
        unfold List.lookup at e
        split at e
        · rename_i hz
          exact eq_of_beq hz
        · cases e
      rw [hx x e1, hx y e2]
    · cases i with
      | zero =>
        cases hi
        exact ⟨cc, rfl, fun v e => by cases e⟩
      | succ i => simp at hi
  have I := NdefX.inv_startN (CX := C8.CX0) (P := P) (w := w) (K := K) (mg := mg) (base := base) (F := clsNF name qual params body scope cc cda) (f := f) (E := E) (tk := s2.toks + (ps.zip us).length) S hr.hd e2 hl r C hns kp
  refine ks_wpAt_mono (ht.nox.run [] _ _ H2 _ I hq) (fun fl s' hs => ?_) fun e s' hs => wpAny_mono hs (fun _ s'' z => hx e s'' z) fun e' s'' z => hx e' s'' z
  have fin : ∀ {σ' : L2.St} {H' : Hp} {v : V} {u : Value}, Inv (NdefX.ncx C8.CX0 P w K mg base N (clsNF name qual params body scope cc cda) f A outer s2 H2 E) [] σ' H' s' → L2.RelV v u → Q v H' → CE outer P w H s Q u s' :=
    fun {σ' H' v u} J rv q => ⟨v, H', J.os.trans ho, J.bare, un.trans J.base, J.hok, rv, q⟩
  cases fl with
  | ret u =>
    obtain ⟨v, σ', H', J, rv, q⟩ := hs
    exact fin J rv q
  | next =>
    obtain ⟨σ', H', J, q⟩ := hs
    exact fin (v := V.non) (u := Value.none) J rfl q
  | brk =>
    obtain ⟨_, _, _, q⟩ := hs
    exact False.elim q
  | cont =>
    obtain ⟨_, _, _, q⟩ := hs
    exact False.elim q
/-- tracked pairs, one behind another -/
def PcL (H : Hp) (rest : List V) (ps : List (Nat × List UInt8)) : Prop := ∃ as : List Addr, rest = as.map V.ref ∧ as.length = ps.length ∧ ∀ (i : Nat) (p : Addr) (z : Nat × List UInt8), as[i]? = some p → ps[i]? = some z → H p = some (.tup [.int (z.1 : Int), .byt z.2.toArray])
theorem PcL.ex {H H' : Hp} {rest : List V} {ps : List (Nat × List UInt8)} (e : Ex H H') (h : PcL H rest ps) : PcL H' rest ps := let ⟨as, h1, h2, h3⟩ := h; ⟨as, h1, h2, fun i p z hp hz => e _ _ (h3 i p z hp hz)⟩
def spSparseI (cs : Cs) : Sp2 := fun vs zs H Q => ∃ (x dx : Addr) (name : List Nat) (size mode time : Nat) (rest : List V) (ps : List (Nat × List UInt8)), vs = .ref x :: .str (SX.S name) :: .int (size : Int) :: rest ∧ zs = [.int (mode : Int), .int (time : Int)] ∧ H x = some (.ins cs.sparse dx []) ∧ PcL H rest ps ∧ ps.length ≤ 90 ∧
  nmT name = true ∧ size ≤ 4096 ∧ (∀ z ∈ ps, z.2.length ≤ 100000) ∧ (∀ z ∈ ps, 0 < z.2.length) ∧ areSpans size (lensOf ps) = true ∧ mode ≤ 4095 ∧ time ≤ 8589934591 ∧
  ∀ H', ExB x H H' → MemR cs (.sparse name mode time size ps) (.ref x) H' → Q .non H'
theorem nsc_Sparse : NdefX.NScope ["self", "name", "size", "mode", "time", "pieces", "__class__"] ["self", "name", "size", "mode", "time", "pieces"] ["__class__"] (defScope (inClass (topS 34) 1)) := NdefX.nscope_by (by decide +kernel)
theorem ok_Sparse {cs : Cs} {f f2 : Addr} (g : GF K mg) (c_look_name : C8.Cal P w K mg base 2 "look_name" (spLookName) []) (c_is_within : C8.Cal P w K mg base 2 "is_within" (spIsWithin) []) (c_are_pieces : C8.Cal P w K mg base 3 "are_pieces" (spArePieces K) []) (c_look_stamps : C8.Cal P w K mg base 3 "look_stamps" (spLookStamps) []) (D : CD P K "Sparse.__init__" (inClass (topS 34) 1) [("mode", .int 420), ("time", .int 0)] f cs.sparse f2) (M : MCls K cs.sparse tSparse) (hm : mg "Sparse" = some (.ref cs.sparse)) (F2 : FnR P w K mg base C8.CX0 1 f2 (spMember K)) : MakS P w K mg base 4 "Sparse" cs.sparse (spSparseI cs) := by
  obtain ⟨cc, cda, oc, od, kV, doc, pm, an, ct, osl, lk, hcd, hkw, S⟩ := D.ex
  obtain ⟨cl, cld, csl, lcell⟩ := S.lcell
  refine ⟨f, D.mkk, hm, fun A outer s H us ws vs zs Q hr e0 r rz hsp => ?_⟩
  obtain ⟨x, dx, name, size, mode, time, rest, ps, rfl, rfl, hx, hps, hl, hn, hsz, h1, h2, hsp, hmo, hti, q⟩ := hsp
  have hn0 : H s.heap.objs.size = Option.none := e0.hok.fresh (Nat.le_refl _)
  obtain ⟨u1, u2, eu, r1, r2⟩ := StX.vals_split (ws := [.ref x, .str (SX.S name), .int (size : Int)]) (rest := rest) r
  subst eu
  have hrl : rest.length ≤ 90 := by obtain ⟨as, e, hl2, _⟩ := hps; rw [e, List.length_map]; omega
  have hl2 : u2.length ≤ sizeLine := by rw [← r2.length, sizeLine_eq]; omega
  have l1 := r1.length
  have l2 := rz.length
  refine runq_bnd (k := 3) (N := ["self", "name", "size", "mode", "time", "pieces", "__class__"]) (ps := ["self", "name", "size", "mode", "time", "pieces"]) lk hcd lcell nsc_Sparse hr e0 (G := fun xs H2 => ∃ p, H p = Option.none ∧ xs = [.ref x, .str (SX.S name), .int (size : Int), .int (mode : Int), .int (time : Int), .ref p] ∧ H2 = upd H p (.tup rest)) (fun A' Ex Q' h => ?_) fun s2 H2 xs hG hr' => ?_
  · match u1, ws, l1, l2, r1, rz with
    | [a, b, c], [d, e], _, _, r1, rz =>
      have hb : bindArgs (PySem.W.ksFn "__init__" "Sparse.__init__" (defArgs (inClass (topS 34) 1)) (defBody (inClass (topS 34) 1)) (defScope (inClass (topS 34) 1)) .none kV doc pm an (.ref cda) ct cc) ⟨[a, b, c] ++ u2, ([("mode" : Str), ("time" : Str)] : List Str).zip [d, e]⟩ = (newTuple u2 >>= fun t => pure ((["self", "name", "size", "mode", "time"] : List Str).zip [a, b, c, d, e] ++ [(("pieces" : Str), t)])) := by
        match u2 with
        | [] => rfl
        | r :: rs => rfl
      rw [hb]
      refine wpAny_bind (wpAny_newTuple (wpAny_pure ?_) hl2)
      have new : ObjOk P w (upd H s.heap.objs.size (.tup rest)) (s.heap.push ({ cls := .type "tuple", data := .seq u2.toArray } : Obj)) s.heap.objs.size (.tup rest) := ⟨by rw [sizeLine_eq]; omega, u2, r2, ⟨_, Heap.get?_push_size _ rfl, rfl, _, rfl⟩⟩
      have un := StX.un_laid (fs := frs outer) (s := s) (o := ({ cls := .type "tuple", data := .seq u2.toArray } : Obj)) (u := .tup rest) hn0
      have z := h _ _ [.ref x, .str (SX.S name), .int (size : Int), .int (mode : Int), .int (time : Int), .ref s.heap.objs.size] ([a, b, c, d, e] ++ [Value.ref s.heap.objs.size]) (StX.env0_laid e0 new) un rfl (fun _ _ z => False.elim z)
        (by cases r1 with | cons a1 b1 => cases b1 with | cons a2 b2 => cases b2 with | cons a3 b3 => cases rz with | cons a4 b4 => cases b4 with | cons a5 b5 => exact .cons a1 (.cons a2 (.cons a3 (.cons a4 (.cons a5 (.cons rfl .nil)))))) rfl ⟨_, hn0, rfl, rfl⟩
      exact z
  · obtain ⟨p, hp, rfl, rfl⟩ := hG
    have hu := hr'.units
    refine ⟨_, psat_cons (ps_expr (C8.pe_c c_look_name hr' (by decide) rfl (pa_cons (pv 1) pa_nil)))
      (psat_cons (ps_if (pt_not (pt_val (C8.pe_c c_is_within hr' (by decide) rfl (pa_cons (pv 2) (pa_cons pe_int (pa_cons (C8.pe_gc rfl g.c_MOST_DATA) pa_nil)))))) pss_never pss_nil)
      (psat_cons (ps_if (pt_not (pt_val (C8.pe_c c_are_pieces hr' (by decide) rfl (pa_cons (pv 2) (pa_cons (pv 5) pa_nil))))) pss_never pss_nil)
      (psat_cons (ps_expr (C8.pe_c c_look_stamps hr' (by decide) rfl (pa_cons (pv 3) (pa_cons (pv 4) pa_nil))))
      (psat_super (i := 0) S F2 (hr'.mono (by decide)) g.n_super rfl rfl rfl rfl rfl rfl rfl (pa_cons (pv 1) (pa_cons (pv 3) (pa_cons (pv 4) (pa_cons (pv 2) (pa_cons (pv 5) pa_nil)))))
      (psat_of (pss_cons (ps_fld (pv 0) (pv 2) rfl) (pss_one (ps_fld (pv 0) (pv 5) rfl)))))))), ?_⟩
    have e0' : Ex H (upd H p (.tup rest)) := Ex.new hp
    have hx' := e0' _ _ hx
    have hpc : PcU (upd H p (.tup rest)) p ps := by
      obtain ⟨as, e, hl2, h3⟩ := hps.ex e0'
      exact ⟨as, by rw [upd_same, e], hl2, h3⟩
    refine q_drop (ev_call (ea_cons (ev_var rfl) ea_nil) (Ret.sp fun H1 e Q E q => ⟨name, rfl, hn, q⟩)) fun H1 e1 => ?_
    refine q_when (b := false) (et_is (et_not (et_B (ev_call (ea_cons (ev_var rfl) (ea_cons ev_c (ea_cons ev_c ea_nil))) (Ret.sp fun H1 e Q E q => ⟨_, _, _, rfl, q⟩)))) (by simp; omega)) (fun h => by cases h) fun _ H2 e2 => ?_
    refine q_when (b := false) (et_is (et_not (et_B (ev_call (ea_cons (ev_var rfl) (ea_cons (ev_var rfl) ea_nil)) fun H3 e Q q E => ⟨size, p, ps, rfl, (hpc.ex (e1.trans e2)).ex e, by omega, h1, h2, q⟩))) (by rw [hsp]; rfl)) (fun h => by cases h) fun _ H3 e3 => ?_
    refine q_drop (ev_call (ea_cons (ev_var rfl) (ea_cons (ev_var rfl) ea_nil)) (Ret.sp fun H1 e Q E q => ⟨mode, time, rfl, hmo, hti, q⟩)) fun H4 e4 => ?_
    have e14 := ((e1.trans e2).trans e3).trans e4
    refine q_sup (rest := [.int (size : Int), .ref p]) M rfl (e14 _ _ hx') (by simp) (ea_cons (ev_var rfl) (ea_cons (ev_var rfl) (ea_cons (ev_var rfl) (ea_cons (ev_var rfl) (ea_cons (ev_var rfl) ea_nil))))) fun key H5 hk e5 h51 h52 => ?_
    have hkx : key ≠ x := fun e => by rw [e, e14 _ _ hx'] at hk; cases hk
    refine ⟨_, rfl, _, rfl, x, cs.sparse, dx, _, rfl, h51, M.cl, M.na _ (by simp), (show (4 : Nat) < 1000 by decide), ?_⟩
    refine ⟨_, rfl, _, rfl, x, cs.sparse, dx, _, rfl, upd_same, M.cl, M.na _ (by simp), (show (5 : Nat) < 1000 by decide), ?_⟩
    have e6 : ExB x H (upd (upd H5 x (.ins cs.sparse dx (putF "size" (.int (size : Int)) (headF name mode time key)))) x (.ins cs.sparse dx (putF "pieces" (.ref p) (putF "size" (.int (size : Int)) (headF name mode time key))))) := ((((ExB.of e0').trans (ExB.of e14)).trans e5).trans ExB.upd).trans ExB.upd
    refine q _ e6 ⟨x, dx, key, p, rfl, upd_same, by rw [upd_ne hkx, upd_ne hkx]; exact h52, ?_⟩
    have e7 : ExB x (upd H p (.tup rest)) (upd (upd H5 x (.ins cs.sparse dx (putF "size" (.int (size : Int)) (headF name mode time key)))) x (.ins cs.sparse dx (putF "pieces" (.ref p) (putF "size" (.int (size : Int)) (headF name mode time key))))) := (((ExB.of e14).trans e5).trans ExB.upd).trans ExB.upd
    obtain ⟨as, ha, hl3, h3⟩ := hpc
    have hpx : p ≠ x := fun e => by rw [e, hx] at hp; cases hp
    refine ⟨as, e7 _ _ hpx ha, hl3, fun i pp z hp hz => e7 _ _ (fun e => ?_) (h3 i pp z hp hz)⟩
    have := h3 i pp z hp hz
    rw [e, hx'] at this
    cases this
end
end Tar

/-! TaP11 -/
set_option Elab.async false
set_option linter.all false
set_option maxRecDepth 100000
set_option maxHeartbeats 4000000
/-! defs, 11: how members are written -/
namespace Tar
open PySem PySem.Spec PyProof.Rows L2 Evl
/-! ### mirror -/
def asc (t : List Nat) : Prop := ∀ c ∈ t, c < 128
def longPart (k t : List Nat) : List UInt8 := if t.length ≤ 100 then [] else header k kLL 0 (t.length + 1) 0 [] ++ padded (toB t ++ zs 1)
def spansP (ps : List (Nat × List UInt8)) : List (Nat × Nat) := ps.map fun z => (z.1, z.2.length)
theorem spansP_len (ps : List (Nat × List UInt8)) : (spansP ps).length = ps.length := by simp [spansP]
namespace Mem
def pieces : Mem → List (Nat × List UInt8)
  | sparse _ _ _ _ ps => ps
  | _ => []
def target : Mem → List Nat
  | sym _ _ _ t => t
  | link _ _ _ t => t
  | _ => []
def letter : Mem → List Nat
  | file .. => [48] | sparse .. => [83] | dir .. => [53] | sym .. => [50] | link .. => [49]
def stored : Mem → List UInt8
  | file _ _ _ d => d
  | sparse _ _ _ n ps => mapBlock n (spansP ps) ++ (ps.map Prod.snd).flatten
  | _ => []
def bytes (m : Mem) : List UInt8 := longPart [75] m.target ++ longPart [76] m.name ++ header m.letter m.name m.mode m.stored.length m.time m.target ++ padded m.stored
/-- a member as the classes let it be made -/
def ok (m : Mem) : Prop := nmT m.name = true ∧ m.mode ≤ 4095 ∧ m.time ≤ 8589934591 ∧ match m with
  | file _ _ _ d => d.length ≤ 4096
  | sparse _ _ _ n ps => n ≤ 4096 ∧ ps.length ≤ 50 ∧ ∀ z ∈ ps, z.1 ≤ 4096 ∧ z.2.length ≤ 4096
  | dir .. => True
  | sym _ _ _ t => nmT t = true
  | link _ _ _ t => nmT t = true
end Mem
theorem let_asc : ∀ c ∈ kLET, c < 128 := by decide
theorem nmT_asc {t : List Nat} (h : nmT t = true) : asc t := by
  unfold nmT okT at h
  simp only [Bool.and_eq_true, List.all_eq_true, decide_eq_true_eq] at h
  exact fun c hc => let_asc c (h.2 c hc)
theorem Mem.ok_target {m : Mem} (h : m.ok) : asc m.target ∧ m.target.length ≤ 250 := by
  cases m with
  | sym _ _ _ t => exact ⟨nmT_asc h.2.2.2, (nmT_len h.2.2.2).2⟩
  | link _ _ _ t => exact ⟨nmT_asc h.2.2.2, (nmT_len h.2.2.2).2⟩
  | _ => exact ⟨fun c hc => (by cases hc), Nat.zero_le _⟩
theorem Mem.ok_name {m : Mem} (h : m.ok) : asc m.name ∧ m.name.length ≤ 250 := ⟨nmT_asc h.1, (nmT_len h.1).2⟩
theorem padded_le (l : List UInt8) : (padded l).length ≤ l.length + 512 := by
  unfold padded
  rw [List.length_append, zs_len]
  omega
theorem mapBlock_le {n : Nat} {ss : List (Nat × Nat)} (hn : n < 10 ^ 12) (hl : ss.length ≤ 1000) (h : ∀ s ∈ ss, s.1 < 10 ^ 12 ∧ s.2 < 10 ^ 12) : (mapBlock n ss).length ≤ 30000 := by
  unfold mapBlock
  have hall : ∀ m ∈ n :: ss.length :: flat2 ss, m < 10 ^ 12 := by
    intro m hm
    rcases List.mem_cons.mp hm with e | hm
    · omega
    rcases List.mem_cons.mp hm with e | hm
    · omega
    exact flat2_lt h m hm
  have h1 := lines_sum _ hall
  have h2 := flat2_len ss
  have h3 := padded_le (toB (mapText (n :: ss.length :: flat2 ss)))
  have h4 : (toB (mapText (n :: ss.length :: flat2 ss))).length = (((n :: ss.length :: flat2 ss).map lineT).map List.length).sum := by
    unfold toB mapText
    rw [List.length_map, List.length_flatten]
  simp only [List.length_cons] at h1
  omega
theorem flat_le {α : Type} (ps : List (α × List UInt8)) (b : Nat) (h : ∀ z ∈ ps, z.2.length ≤ b) : ((ps.map Prod.snd).flatten).length ≤ b * ps.length := by
  induction ps with
  | nil => simp
  | cons z r ih =>
    have h1 := ih fun y hy => h y (List.mem_cons_of_mem _ hy)
    have h2 := h z (List.mem_cons_self ..)
    simp only [List.map_cons, List.flatten_cons, List.length_append, List.length_cons]
    rw [Nat.mul_add]
    omega
theorem Mem.stored_le {m : Mem} (h : m.ok) : m.stored.length ≤ 300000 := by
  cases m with
  | file _ _ _ d => exact Nat.le_trans h.2.2.2 (by decide)
  | sparse _ _ _ n ps =>
    obtain ⟨h1, h2, h3⟩ := h.2.2.2
    have a := mapBlock_le (n := n) (ss := spansP ps) (by omega) (by rw [spansP_len]; omega) (fun s hs => by
      obtain ⟨z, hz, rfl⟩ := List.mem_map.mp hs
      have := h3 z hz
      constructor <;> simp <;> omega)
    have b := flat_le ps 4096 fun z hz => (h3 z hz).2
    show (mapBlock n _ ++ _).length ≤ _
    rw [List.length_append]
    have : 4096 * ps.length ≤ 4096 * 50 := Nat.mul_le_mul_left _ h2
    omega
  | _ => exact Nat.zero_le _
theorem header_le {k n : List Nat} {m s t : Nat} {g : List Nat} (lk : k.length ≤ 100) (hm : m ≤ 8589934592) (hs : s ≤ 8589934592) (ht : t ≤ 8589934592) : (header k n m s t g).length ≤ 5000 := by
  have z8 : (octT 0).length ≤ 12 := octT12 (by decide)
  have o1 := octalField_len2 (m := 8) (octT12 hm)
  have o0 := octalField_len2 (m := 8) z8
  have os := octalField_len2 (m := 12) (octT12 hs)
  have ot := octalField_len2 (m := 12) (octT12 ht)
  have lf : (frontOf n m s t).length ≤ 1000 := by
    unfold frontOf
    simp only [List.length_append, textField_len]
    omega
  have lb : (behindOf k g).length ≤ 1000 := by
    unfold behindOf toB
    simp only [List.length_append, zs_len, magic_len, List.length_map, textField_len]
    omega
  have lm : (frontOf n m s t ++ zs 8 ++ behindOf k g).length ≤ 10000 := by
    simp only [List.length_append, zs_len]
    omega
  have lc := checksumField_len lm
  unfold header
  simp only [List.length_append]
  omega
theorem longPart_le {k t : List Nat} (lk : k.length ≤ 100) (ht : t.length ≤ 1000) : (longPart k t).length ≤ 10000 := by
  unfold longPart
  split
  · exact Nat.zero_le _
  · have h1 := header_le (k := k) (n := kLL) (m := 0) (s := t.length + 1) (t := 0) (g := []) lk (by decide) (by omega) (by decide)
    have h2 := padded_le (toB t ++ zs 1)
    rw [List.length_append, zs_len] at h2
    unfold toB at h2
    rw [List.length_map] at h2
    rw [List.length_append]
    unfold toB
    omega
theorem Mem.bytes_le {m : Mem} (h : m.ok) : m.bytes.length ≤ 400000 := by
  unfold Mem.bytes
  have a := longPart_le (k := [75]) (t := m.target) (by decide) (by have := (Mem.ok_target h).2; omega)
  have b := longPart_le (k := [76]) (t := m.name) (by decide) (by have := (Mem.ok_name h).2; omega)
  have s := Mem.stored_le h
  have c := header_le (k := m.letter) (n := m.name) (m := m.mode) (s := m.stored.length) (t := m.time) (g := m.target) (by cases m <;> exact (by decide : (1 : Nat) ≤ 100)) (by have := h.2.1; omega) (by omega) (by have := h.2.2.1; omega)
  have d := padded_le m.stored
  simp only [List.length_append]
  omega
/-! ### the classes -/
structure CF (K : PySem.W.Frag) (cs : Cs) : Prop where
  file : MCls K cs.file tFile
  sparse : MCls K cs.sparse tSparse
  dir : MCls K cs.dir tDir
  sym : MCls K cs.sym tSym
  link : MCls K cs.link tLink
theorem CF.of {K : PySem.W.Frag} {cs : Cs} (c : CF K cs) (m : Mem) : MCls K (m.cls cs) m.kind := by
  cases m with
  | file => exact c.file
  | sparse => exact c.sparse
  | dir => exact c.dir
  | sym => exact c.sym
  | link => exact c.link
structure LetT (K : PySem.W.Frag) (w : World) (aL : Addr) : Prop where
  at_ : ∀ m : Mem, KDct K w aL (SX.S m.kind) (.str (SX.S m.letter))
section
variable {P : Program} {w : World} {K : PySem.W.Frag} {mg : Str → Option Value} {base : Heap}
section
variable {σ : L2.St} {H : Hp} {te : TE} {x dx C : Addr} {fs : List (Str × V)} {f : Str} {v : V}
theorem ev_fld (h : Ev te σ H (.ref x)) (hx : H x = some (.ins C dx fs)) (c : Cls K C) (n : NoAttr K C f) (hl : fs.lookup f = some v) : Ev (tFld K te f) σ H v := fun H1 e Q q => h H1 e _ fun H2 e2 => ⟨x, C, dx, fs, v, rfl, e2 _ _ (e _ _ hx), c, n, hl, q H2 e2⟩
theorem ev_con {u : Value} (h : Ev te σ H (.ref x)) (hx : H x = some (.ins C dx fs)) (c : Cls K C) (n : Con K C f v u) (hl : fs.lookup f = none) : Ev (tCon K te f) σ H v := fun H1 e Q q => h H1 e _ fun H2 e2 => ⟨x, C, dx, fs, v, u, rfl, e2 _ _ (e _ _ hx), c, n, hl, q H2 e2⟩
end
/-- what is known where a member stands -/
structure MemAt (K : PySem.W.Frag) (cs : Cs) (m : Mem) (x dx key p : Addr) (H : Hp) : Prop where
  at_ : H x = some (.ins (m.cls cs) dx (headF m.name m.mode m.time key ++ m.tail p))
  key : H key = some (.tup (keyV m.kind m.name m.mode m.time ((m.tail p).map Prod.snd)))
  pcs : m.pcs H p
  cl : MCls K (m.cls cs) m.kind
theorem MemAt.ex {cs : Cs} {m : Mem} {x dx key p : Addr} {H H' : Hp} (e : Ex H H') (a : MemAt K cs m x dx key p H) : MemAt K cs m x dx key p H' := ⟨e _ _ a.at_, e _ _ a.key, Mem.pcs_ex e a.pcs, a.cl⟩
theorem MemR.open_ {cs : Cs} {m : Mem} {v : V} {H : Hp} (c : CF K cs) (h : MemR cs m v H) : ∃ x dx key p, v = .ref x ∧ MemAt K cs m x dx key p H := let ⟨x, dx, key, p, e, h1, h2, h3⟩ := h; ⟨x, dx, key, p, e, h1, h2, h3, c.of m⟩
section
variable {cs : Cs} {m : Mem} {x dx key p : Addr} {σ : L2.St} {H : Hp} {te : TE}
theorem MemAt.kind (a : MemAt K cs m x dx key p H) (h : Ev te σ H (.ref x)) : Ev (tCon K te "KIND") σ H (.str (SX.S m.kind)) := by
  obtain ⟨u, hc⟩ := a.cl.con
  exact ev_con h a.at_ a.cl.cl hc (by cases m <;> rfl)
theorem MemAt.name (a : MemAt K cs m x dx key p H) (h : Ev te σ H (.ref x)) : Ev (tFld K te "name") σ H (.str (SX.S m.name)) := ev_fld h a.at_ a.cl.cl (a.cl.na _ (by simp)) rfl
theorem MemAt.mode (a : MemAt K cs m x dx key p H) (h : Ev te σ H (.ref x)) : Ev (tFld K te "mode") σ H (.int (m.mode : Int)) := ev_fld h a.at_ a.cl.cl (a.cl.na _ (by simp)) rfl
theorem MemAt.time (a : MemAt K cs m x dx key p H) (h : Ev te σ H (.ref x)) : Ev (tFld K te "time") σ H (.int (m.time : Int)) := ev_fld h a.at_ a.cl.cl (a.cl.na _ (by simp)) rfl
theorem MemAt.keyf (a : MemAt K cs m x dx key p H) (h : Ev te σ H (.ref x)) : Ev (tFld K te "key") σ H (.ref key) := ev_fld h a.at_ a.cl.cl (a.cl.na _ (by simp)) rfl
end
def spTargetText (cs : Cs) : Sp := fun vs H Q _ => ∃ (v : V) (m : Mem), vs = [v] ∧ MemR cs m v H ∧ Ret (.str (SX.S m.target)) H Q
theorem sc_target_text : FnScope ["member"] ["member"] (defScope (topS 71)) := ⟨rfl, rfl, rfl, by decide +kernel, rfl, by decide +kernel, by decide +kernel⟩
theorem ok_target_text (g : GF K mg) (D : D0 K mg "target_text" (topS 71))  {cs : Cs} (c : CF K cs) : C8.Cal P w K mg base 1 "target_text" (spTargetText cs) [] := by
  refine calD D (fun _ _ _ _ _ _ us hl => match us, hl with | [_], _ => rfl) sc_target_text (fun vs H Q E h => by obtain ⟨v, m, rfl, hm, q⟩ := h; rfl) fun f cdv A outer s H vs Q E hr h => ?_
  have hu := hr.units
  have hu1 := hu_of hr
  obtain ⟨v, m, rfl, hm, q⟩ := h
  refine ⟨_, pss_one (ps_ret (pe_ifExp (pt_cmpR (op_inX (K := K)) (pe_conK (K := K) (pv 0) rfl) (pe_tup (pa_cons (pe_str) (pa_cons (pe_str) (pa_nil)))) (by with_unfolding_all rfl)) (pe_fldK (K := K) (pv 0) rfl) (pe_str))), ?_⟩
  obtain ⟨x, dx, key, p, rfl, a⟩ := hm.open_ c
  refine s_ret (ev_if (b := inV (.str (SX.S m.kind)) [.str "symlink", .str "link"]) (et_test (ev_inTup (a.kind (ev_var rfl)) (eu_tup (ea_cons ev_c (ea_cons ev_c ea_nil)) (by decide)) rfl rfl)) (fun hb => ?_) (fun hb => ?_)) q
  · cases m with
    | sym n mo t g => exact ev_fld (ev_var rfl) a.at_ a.cl.cl (a.cl.na _ (by simp)) rfl
    | link n mo t g => exact ev_fld (ev_var rfl) a.at_ a.cl.cl (a.cl.na _ (by simp)) rfl
    | file =>
      have hb2 : inV (.str (SX.S tFile)) [.str "symlink", .str "link"] = true := hb
      exact absurd hb2 (by decide)
    | sparse =>
      have hb2 : inV (.str (SX.S tSparse)) [.str "symlink", .str "link"] = true := hb
      exact absurd hb2 (by decide)
    | dir =>
      have hb2 : inV (.str (SX.S tDir)) [.str "symlink", .str "link"] = true := hb
      exact absurd hb2 (by decide)
  · cases m with
    | sym n mo t g =>
      have hb2 : inV (.str (SX.S tSym)) [.str "symlink", .str "link"] = false := hb
      exact absurd hb2 (by decide)
    | link n mo t g =>
      have hb2 : inV (.str (SX.S tLink)) [.str "symlink", .str "link"] = false := hb
      exact absurd hb2 (by decide)
    | _ => exact ev_lit rfl
theorem join_flat : ∀ (bs : List (List UInt8)) (k : Nat) (acc : List UInt8), ((bs.map List.toArray).zipIdx k).foldl (fun (out : Array UInt8) (p : Array UInt8 × Nat) => (if p.2 > 0 then out ++ #[] else out) ++ p.1) acc.toArray = (acc ++ bs.flatten).toArray
  | [], k, acc => by simp
  | b :: r, k, acc => by
    have ih := join_flat r (k + 1) (acc ++ b)
    rw [List.map_cons, List.zipIdx_cons, List.foldl_cons]
    have e : (if k > 0 then acc.toArray ++ #[] else acc.toArray) ++ b.toArray = (acc ++ b).toArray := by
      split <;> simp
    show List.foldl _ ((if k > 0 then acc.toArray ++ #[] else acc.toArray) ++ b.toArray) _ = _
    rw [e, ih, List.flatten_cons, List.append_assoc]
theorem joined_flat (bs : List (List UInt8)) : Builtin.Bytes.joined #[] (bs.map List.toArray) = bs.flatten.toArray := join_flat bs 0 []
theorem foldl_size : ∀ (bs : List (List UInt8)) (a : Nat), (bs.map List.toArray).foldl (fun (n : Nat) (b : Array UInt8) => n + b.size) a = a + bs.flatten.length
  | [], a => by simp
  | b :: r, a => by
    rw [List.map_cons, List.foldl_cons, foldl_size r, List.flatten_cons, List.length_append]
    simp
    omega
/-- b"".join([..]) -/
theorem ev_bjoin {σ : L2.St} {H : Hp} {te : TE} {bs : List (List UInt8)} (h : EvL te σ H (bs.map fun b => V.byt b.toArray)) (hz : bs.flatten.length ≤ 16777216) : Ev (tMG tyByt (rBjoin K) (fun _ H Q => Q (.byt ([] : List UInt8).toArray) H) (tCons te tNil)) σ H (.byt bs.flatten.toArray) := fun H1 e Q q => by
  refine ⟨⟨_, rfl⟩, h H1 e _ fun p H2 _ e2 h2 => ⟨#[], p, bs.map List.toArray, rfl, rfl, sq_of (by rw [List.map_map]; exact h2), ?_, ?_, ?_⟩⟩
  · unfold Builtin.Bytes.tooLong
    rw [sizeLine_eq]
    have e3 : ((bs.map List.toArray).toArray.foldl (fun (n : Nat) (b : Array UInt8) => n + b.size) ((#[] : Array UInt8).size * ((bs.map List.toArray).length - 1))) = bs.flatten.length := by
      rw [List.foldl_toArray, foldl_size]
      simp
    rw [e3]
    exact decide_eq_false (by omega)
  · rw [joined_flat, sizeLine_eq]
    simpa using hz
  · rw [joined_flat]
    exact q H2 e2
def spStored (cs : Cs) : Sp := fun vs H Q _ => ∃ (v : V) (m : Mem), vs = [v] ∧ MemR cs m v H ∧ m.ok ∧ Ret (.byt m.stored.toArray) H Q
theorem lens_pr (ps : List (Nat × List UInt8)) : iPr (lensOf ps) = nPr (spansP ps) := by
  unfold iPr lensOf nPr spansP
  rw [List.map_map, List.map_map]
  rfl
theorem sc_stored : FnScope ["member", "spans", "offset", "data"] ["member"] (defScope (topS 69)) := ⟨rfl, rfl, rfl, by decide +kernel, rfl, by decide +kernel, by decide +kernel⟩
theorem ok_stored (g : GF K mg) (D : D0 K mg "stored" (topS 69)) (c_map_block : C8.Cal P w K mg base 2 "map_block" (spMapBlock K) []) {cs : Cs} (c : CF K cs) : C8.Cal P w K mg base 3 "stored" (spStored cs) [] := by
  refine calD D (fun _ _ _ _ _ _ us hl => match us, hl with | [_], _ => rfl) sc_stored (fun vs H Q E h => by obtain ⟨v, m, rfl, hm, ho, q⟩ := h; rfl) fun f cdv A outer s H vs Q E hr h => ?_
  have hu := hr.units
  have hu1 := hu_of hr
  obtain ⟨v, m, rfl, hm, ho, q⟩ := h
  refine ⟨_, pss_one (ps_match (pe_conK (K := K) (pv 0) rfl) (pm_str (pss_one (ps_ret (pe_fldK (K := K) (pv 0) rfl))) (pm_str (pss_cons (ps_setLc (i := 1) (own := [("offset", 2), ("data", 3)]) (tt := tYes) rfl sc_stored.nd rfl rfl (sw_true rfl rfl rfl (by decide +kernel)) (pi_tupK (K := K) (pe_fldK (K := K) (pv 0) rfl)) (blkOk_by (N := ["member", "spans", "offset", "data"]) (sc := defScope (topS 69)) (by decide +kernel)) (fun _ _ _ _ _ => pg_tupK (K := K) (n := 2) rfl (pgs_cons (pg_name (i := 2) sc_stored.nd rfl (Or.inl rfl)) (pgs_cons (pg_name (i := 3) sc_stored.nd rfl (Or.inl rfl)) (pgs_nil)))) (fun _ _ _ _ _ => pts_nil) (fun _ _ _ _ _ => pe_tup (pa_cons (pv 2) (pa_cons (pe_callB (cr_lenX (K := K)) rfl g.n_len bo_len (pa_cons (pv 3) (pa_nil))) (pa_nil)))))
      (pss_one (ps_ret (pe_op op_addX (C8.pe_c c_map_block hr (by decide) rfl (pa_cons (pe_fldK (K := K) (pv 0) rfl) (pa_cons (pv 1) (pa_nil)))) (pe_mG ty_byt PySem.W.FB.plainAttrs_bytes slB_join tpB_join mt_bjoin (pe_byt) (pa_cons (pe_lc (own := [("offset", 2), ("data", 3)]) (tt := tYes) rfl sc_stored.nd (pi_tupK (K := K) (pe_fldK (K := K) (pv 0) rfl)) (blkOk_by (N := ["member", "spans", "offset", "data"]) (sc := defScope (topS 69)) (by decide +kernel)) (fun _ _ _ _ _ => pg_tupK (K := K) (n := 2) rfl (pgs_cons (pg_name (i := 2) sc_stored.nd rfl (Or.inl rfl)) (pgs_cons (pg_name (i := 3) sc_stored.nd rfl (Or.inl rfl)) (pgs_nil)))) (fun _ _ _ _ _ => pts_nil) (fun _ _ _ _ _ => pv 3)) (pa_nil))))))) (pm_any (pss_one (ps_ret (pe_callTy0 call_bytes_0 rfl g.n_bytes bo_bytes))))))), ?_⟩
  obtain ⟨x, dx, key, p, rfl, a⟩ := hm.open_ c
  refine Ev.go (a.kind (ev_var rfl)) fun H1 e1 => ⟨_, rfl, ?_⟩
  have a1 := a.ex e1
  cases m with
  | file n mo t d =>
    exact s_ret (ev_fld (ev_var rfl) a1.at_ a1.cl.cl (a1.cl.na _ (by simp)) rfl) fun H2 e2 => q H2 (e1.trans e2)
  | dir n mo t => exact s_ret (σ := []) ev_byt0 fun H2 e2 => q H2 (e1.trans e2)
  | sym n mo t g => exact s_ret (σ := []) ev_byt0 fun H2 e2 => q H2 (e1.trans e2)
  | link n mo t g => exact s_ret (σ := []) ev_byt0 fun H2 e2 => q H2 (e1.trans e2)
  | sparse n mo t sz ps =>
    obtain ⟨h1, h2, h3⟩ := ho.2.2.2
    have hst := Mem.stored_le ho
    have hpc : PcU H1 p ps := a1.pcs
    have hpf : ∀ H2, Ex H1 H2 → ∀ σ : L2.St, σ[0]? = some (some (.ref x)) → Ev (tFld K (tVar 0) "pieces") σ H2 (.ref p) := fun H2 e2 σ h0 => ev_fld (ev_var h0) (e2 _ _ a1.at_) a1.cl.cl (a1.cl.na _ (by simp)) rfl
    refine q_asgR (er_lens (hpf H1 (Ex.refl _) _ rfl) hpc (by omega) (fun z hz => by have := h3 z hz; omega) (fun _ _ => rfl) (fun _ _ => rfl) (fun _ _ => rfl)) fun v2 H2 e2 hp2 => ?_
    obtain ⟨p2, rfl, hpr⟩ := hp2
    have a2 := a1.ex e2
    rw [lens_pr] at hpr
    have hsf : ∀ σ : L2.St, σ[0]? = some (some (.ref x)) → Ev (tFld K (tVar 0) "size") σ H2 (.int (sz : Int)) := fun σ h0 => ev_fld (ev_var h0) a2.at_ a2.cl.cl (a2.cl.na _ (by simp)) rfl
    refine s_ret (ev_op (ev_call (z := .byt (mapBlock sz (spansP ps)).toArray) (ea_cons (hsf _ rfl) (ea_cons (ev_var rfl) ea_nil)) (fun H3 e Q q E => ⟨sz, p2, spansP ps, rfl, hpr.ex e, by rw [spansP_len]; omega, by omega, fun s hs => ?_, q⟩))
      (ev_bjoin (bs := ps.map Prod.snd) ?_ ?_) (rv_addY ?_)) fun H3 e3 => q H3 ((e1.trans e2).trans e3)
    · obtain ⟨z, hz, rfl⟩ := List.mem_map.mp hs
      have := h3 z hz
      constructor <;> simp <;> omega
    · have g := el_lcPrU (K := K) (te := tVar 3) (vs := [2, 3]) (j := 2) (k := 3) (f := fun z : V × V => z.2) (hpf H2 e2 _ (show (L2.start ["member", "spans", "offset", "data"] [V.ref x] |>.set 1 (some (.ref p2)))[0]? = _ from rfl)) ((hpc.ex e2).pr (K := K)) (by simp [yPr]; omega) (fun _ _ => rfl) (fun z hz => ev_var rfl)
      have e5 : (yPr ps).map (fun z : V × V => z.2) = (ps.map Prod.snd).map fun b => V.byt b.toArray := by
        unfold yPr
        rw [List.map_map, List.map_map]
        rfl
      rw [e5] at g
      exact g
    · show ((ps.map Prod.snd).flatten).length ≤ _
      have b := flat_le ps 4096 fun z hz => (h3 z hz).2
      have : 4096 * ps.length ≤ 4096 * 50 := Nat.mul_le_mul_left _ h2
      omega
    · have : (Mem.sparse n mo t sz ps).stored.length = (mapBlock sz (spansP ps)).length + ((ps.map Prod.snd).flatten).length := by
        show (mapBlock sz _ ++ _).length = _
        rw [List.length_append]
      omega
end
end Tar

/-! TaP12 -/
set_option Elab.async false
set_option linter.all false
set_option maxRecDepth 100000
set_option maxHeartbeats 4000000
/-! defs, 12: long_part, bytes_of, blocks_of, written -/
namespace Tar
open PySem PySem.Spec PyProof.Rows L2 Evl
section
variable {P : Program} {w : World} {K : PySem.W.Frag} {mg : Str → Option Value} {base : Heap}
theorem q_par {σ : L2.St} {H : Hp} {D : Ends} {tz : TS} {i j : Nat} {ta : TA} {v u : V} (h : EvA ta σ H [v, u]) (k : ∀ H1, Ex H H1 → tz D ((σ.set i (some v)).set j (some u)) H1) : tSeq (tPar i j ta) tz D σ H := h H (Ex.refl _) _ fun H1 e => ⟨v, u, rfl, k H1 e⟩
theorem kLL_asc : asc kLL := by unfold asc; decide
def spLongPart : Sp := fun vs H Q _ => ∃ k t : List Nat, vs = [.str (SX.S k), .str (SX.S t)] ∧ asc k ∧ asc t ∧ k.length ≤ 100 ∧ t.length ≤ 1000 ∧ Ret (.byt (longPart k t).toArray) H Q
theorem sc_long_part : FnScope ["kind", "text"] ["kind", "text"] (defScope (topS 70)) := ⟨rfl, rfl, rfl, by decide +kernel, rfl, by decide +kernel, by decide +kernel⟩
theorem ok_long_part (g : GF K mg) (D : D0 K mg "long_part" (topS 70)) (c_header1 : CalN P w K mg base 4 "header" spHeader 2 ["size"] (fun vs zs => vs ++ ([.int 0] ++ (zs ++ [.int 0, .str (SX.S [])])))) (c_header4 : CalN P w K mg base 4 "header" spHeader 2 ["mode", "size", "time", "target"] (fun vs zs => vs ++ zs)) (c_padded : C8.Cal P w K mg base 1 "padded" (spPadded) []) (c_is_short : C8.Cal P w K mg base 1 "is_short" (spIsShort) [])  : C8.Cal P w K mg base 5 "long_part" (spLongPart) [] := by
  refine calD D (fun _ _ _ _ _ _ us hl => match us, hl with | [_, _], _ => rfl) sc_long_part (fun vs H Q E h => by obtain ⟨k, t, rfl, hk, ht, lk, lt, q⟩ := h; rfl) fun f cdv A outer s H vs Q E hr h => ?_
  have hu := hr.units
  have hu1 := hu_of hr
  obtain ⟨k, t, rfl, hk, ht, lk, lt, q⟩ := h
  refine ⟨_, pss_cons (ps_if (pt_val (C8.pe_c c_is_short hr (by decide) rfl (pa_cons (pv 1) (pa_nil)))) (pss_one (ps_ret (pe_callTy0 call_bytes_0 rfl g.n_bytes bo_bytes))) (pss_nil))
      (pss_one (ps_ret (pe_op op_addX (pe_cN c_header1 hr (by decide) rfl (pa_cons (pv 0) (pa_cons (C8.pe_gc rfl g.c_LONG_NAME) (pa_nil))) (pk_cons (pe_op op_addX (pe_callB (cr_lenX (K := K)) rfl g.n_len bo_len (pa_cons (pv 1) (pa_nil))) (pe_int)) (pk_nil))) (C8.pe_c c_padded hr (by decide) rfl (pa_cons (pe_op op_addX (pe_bm0 PySem.F.plainAttrs_str PySem.F.slot_str_encode PySem.F.type_str_encode mt_encode (pv 1)) (pe_callTy call_bytes_n rfl g.n_bytes bo_bytes (pa_cons (pe_int) (pa_nil)))) (pa_nil)))))), ?_⟩
  refine q_when (et_B (ev_call (ea_cons (ev_var rfl) ea_nil) (Ret.sp fun H1 e Q E q => ⟨t, rfl, by omega, q⟩))) (fun hb H1 e1 => s_ret (σ := []) ev_byt0 fun H2 e2 => ?_) (fun hb H1 e1 => ?_)
  · have q2 := q H2 (e1.trans e2)
    unfold longPart at q2
    rw [if_pos (by simpa using hb)] at q2
    exact q2
  · have hl : ¬ t.length ≤ 100 := by simpa using hb
    have e0 : longPart k t = header k kLL 0 (t.length + 1) 0 [] ++ padded (toB t ++ zs 1) := by
      unfold longPart
      rw [if_neg hl]
    rw [e0] at q
    have h1 := header_le (k := k) (n := kLL) (m := 0) (s := t.length + 1) (t := 0) (g := []) lk (by decide) (by omega) (by decide)
    have h3 : (toB t ++ zs 1).length ≤ 1001 := by
      unfold toB
      rw [List.length_append, List.length_map, zs_len]
      omega
    have h2 := padded_le (toB t ++ zs 1)
    refine s_ret (ev_op (ev_cN (z := .byt (header k kLL 0 (t.length + 1) 0 []).toArray) (ea_cons (ev_var rfl) (ea_cons ev_c ea_nil)) (ea_cons (ev_is (ev_op (ev_cb1 (ev_var rfl) (rc_lenT (by omega))) ev_c rv_addI) (congrArg V.int (show ((t.length : Int) + 1) = ((t.length + 1 : Nat) : Int) by omega))) ea_nil) rfl rfl (Ret.sp fun H1 e Q E q => ⟨k, kLL, 0, t.length + 1, 0, [], rfl, hk, kLL_asc, (fun c hc => by cases hc), lk, by decide, by decide, by decide, by omega, by decide, q⟩))
      (ev_call (ea_cons (ev_op (ev_enc (ev_var rfl) ht (by omega)) (ev_cb1 ev_c (rc_bytNn (n := 1) (by omega))) (rv_addY (by rw [List.length_map, zs_len]; omega))) ea_nil) (Ret.sp fun H1 e Q E q => ⟨toB t ++ zs 1, rfl, by omega, q⟩)) (rv_addY (by omega))) fun H2 e2 => q H2 (e1.trans e2)
theorem Mem.letter_asc (m : Mem) : asc m.letter ∧ m.letter.length ≤ 100 := by
  cases m with
  | file => exact ⟨(by unfold asc; decide : asc [48]), (by decide : (1 : Nat) ≤ 100)⟩
  | sparse => exact ⟨(by unfold asc; decide : asc [83]), (by decide : (1 : Nat) ≤ 100)⟩
  | dir => exact ⟨(by unfold asc; decide : asc [53]), (by decide : (1 : Nat) ≤ 100)⟩
  | sym => exact ⟨(by unfold asc; decide : asc [50]), (by decide : (1 : Nat) ≤ 100)⟩
  | link => exact ⟨(by unfold asc; decide : asc [49]), (by decide : (1 : Nat) ≤ 100)⟩
def spBytesOf (cs : Cs) : Sp := fun vs H Q _ => ∃ (v : V) (m : Mem), vs = [v] ∧ MemR cs m v H ∧ m.ok ∧ Ret (.byt m.bytes.toArray) H Q
theorem sc_bytes_of : FnScope ["member", "data", "target", "own"] ["member"] (defScope (topS 72)) := ⟨rfl, rfl, rfl, by decide +kernel, rfl, by decide +kernel, by decide +kernel⟩
theorem ok_bytes_of {cs : Cs} (g : GF K mg) (D : D0 K mg "bytes_of" (topS 72)) (c_long_part : C8.Cal P w K mg base 5 "long_part" (spLongPart) []) (c_padded : C8.Cal P w K mg base 1 "padded" (spPadded) []) (c_header1 : CalN P w K mg base 4 "header" spHeader 2 ["size"] (fun vs zs => vs ++ ([.int 0] ++ (zs ++ [.int 0, .str (SX.S [])])))) (c_header4 : CalN P w K mg base 4 "header" spHeader 2 ["mode", "size", "time", "target"] (fun vs zs => vs ++ zs)) (c_target_text : C8.Cal P w K mg base 1 "target_text" (spTargetText cs) []) (c_stored : C8.Cal P w K mg base 3 "stored" (spStored cs) []) (c : CF K cs) {aL : Addr} (hLETTERS_OF : GV mg "LETTERS_OF" (.ref aL)) (hT : LetT K w aL) : C8.Cal P w K mg base 6 "bytes_of" (spBytesOf cs) [] := by
  refine calD D (fun _ _ _ _ _ _ us hl => match us, hl with | [_], _ => rfl) sc_bytes_of (fun vs H Q E h => by obtain ⟨v, m, rfl, hm, ho, q⟩ := h; rfl) fun f cdv A outer s H vs Q E hr h => ?_
  have hu := hr.units
  have hu1 := hu_of hr
  obtain ⟨v, m, rfl, hm, ho, q⟩ := h
  refine ⟨_, pss_cons (ps_par (i := 1) (j := 2) rfl sc_bytes_of.nd rfl rfl (by decide) rfl rfl (pa_cons (C8.pe_c c_stored hr (by decide) rfl (pa_cons (pv 0) (pa_nil))) (pa_cons (C8.pe_c c_target_text hr (by decide) rfl (pa_cons (pv 0) (pa_nil))) (pa_nil))) rfl)
      (pss_cons (ps_set (i := 3) sc_bytes_of.nd rfl (Or.inl rfl) (pe_cN c_header4 hr (by decide) rfl (pa_cons (pe_ix (ix_kdictK (K := K) (w := w)) (C8.pe_gc rfl hLETTERS_OF) (pe_conK (K := K) (pv 0) rfl) (fun _ _ => rfl)) (pa_cons (pe_fldK (K := K) (pv 0) rfl) (pa_nil))) (pk_cons (pe_fldK (K := K) (pv 0) rfl) (pk_cons (pe_callB (cr_lenX (K := K)) rfl g.n_len bo_len (pa_cons (pv 1) (pa_nil))) (pk_cons (pe_fldK (K := K) (pv 0) rfl) (pk_cons (pv 2) (pk_nil)))))))
      (pss_one (ps_ret (pe_op op_addX (pe_op op_addX (pe_op op_addX (C8.pe_c c_long_part hr (by decide) rfl (pa_cons (pe_str) (pa_cons (pv 2) (pa_nil)))) (C8.pe_c c_long_part hr (by decide) rfl (pa_cons (pe_str) (pa_cons (pe_fldK (K := K) (pv 0) rfl) (pa_nil))))) (pv 3)) (C8.pe_c c_padded hr (by decide) rfl (pa_cons (pv 1) (pa_nil))))))), ?_⟩
  obtain ⟨x, dx, key, p, ev, a⟩ := hm.open_ c
  have hst := Mem.stored_le ho
  have htg := Mem.ok_target ho
  have hnm := Mem.ok_name ho
  have hlt := Mem.letter_asc m
  refine q_par (ea_cons (ev_call (z := .byt m.stored.toArray) (ea_cons (ev_var rfl) ea_nil) (fun H1 e Q q E => ⟨v, m, rfl, memR_sta cs m _ _ _ e hm, ho, q⟩)) (ea_cons (ev_call (z := .str (SX.S m.target)) (ea_cons (ev_var rfl) ea_nil) (fun H1 e Q q E => ⟨v, m, rfl, memR_sta cs m _ _ _ e hm, q⟩)) ea_nil)) fun H1 e1 => ?_
  subst ev
  have a1 := a.ex e1
  have hkd : ∀ σ : L2.St, σ[0]? = some (some (.ref x)) → Ev (tOp (rIxD K w) (tC (.ref aL)) (tCon K (tVar 0) "KIND")) σ H1 (.str (SX.S m.letter)) := fun σ h0 => ev_op ev_c (a1.kind (ev_var h0)) fun H2 e2 Q q => ⟨aL, SX.S m.kind, _, rfl, rfl, hT.at_ m, q H2 (Ex.refl _)⟩
  refine q_asg (v := .byt (header m.letter m.name m.mode m.stored.length m.time m.target).toArray) (ev_cN (ea_cons (hkd _ rfl) (ea_cons (a1.name (ev_var rfl)) ea_nil)) (ea_cons (a1.mode (ev_var rfl)) (ea_cons (ev_cb1 (ev_var rfl) (rc_lenY (by omega))) (ea_cons (a1.time (ev_var rfl)) (ea_cons (ev_var rfl) ea_nil)))) rfl rfl (Ret.sp fun H1 e Q E q => ⟨m.letter, m.name, m.mode, m.stored.length, m.time, m.target, rfl, hlt.1, hnm.1, htg.1, hlt.2, by have := hnm.2; omega, by have := htg.2; omega, by have := ho.2.1; omega, by omega, by have := ho.2.2.1; omega, q⟩)) fun H2 e2 => ?_
  have a2 := a1.ex e2
  have l1 := longPart_le (k := [75]) (t := m.target) (by decide) (by have := htg.2; omega)
  have l2 := longPart_le (k := [76]) (t := m.name) (by decide) (by have := hnm.2; omega)
  have l3 := header_le (k := m.letter) (n := m.name) (m := m.mode) (s := m.stored.length) (t := m.time) (g := m.target) hlt.2 (by have := ho.2.1; omega) (by omega) (by have := ho.2.2.1; omega)
  have l4 := padded_le m.stored
  exact s_ret (v := .byt m.bytes.toArray) (ev_op (ev_op (ev_op (ev_call (ea_cons (ev_lit (l := [75]) rfl) (ea_cons (ev_var rfl) ea_nil)) (Ret.sp fun H1 e Q E q => ⟨[75], m.target, rfl, by unfold asc; decide, htg.1, by decide, by have := htg.2; omega, q⟩)) (ev_call (ea_cons (ev_lit (l := [76]) rfl) (ea_cons (a2.name (ev_var rfl)) ea_nil)) (Ret.sp fun H1 e Q E q => ⟨[76], m.name, rfl, by unfold asc; decide, hnm.1, by decide, by have := hnm.2; omega, q⟩)) (rv_addY (by omega))) (ev_var rfl) (rv_addY (by rw [List.length_append]; omega)))
    (ev_call (ea_cons (ev_var rfl) ea_nil) (Ret.sp fun H1 e Q E q => ⟨m.stored, rfl, by omega, q⟩)) (rv_addY (by simp only [List.length_append]; omega))) fun H3 e3 => q H3 ((e1.trans e2).trans e3)
def spBlocksOf (cs : Cs) : Sp := fun vs H Q _ => ∃ (v : V) (m : Mem), vs = [v] ∧ MemR cs m v H ∧ m.ok ∧ Ret (.int ((m.bytes.length / 512 : Nat) : Int)) H Q
theorem sc_blocks_of : FnScope ["member"] ["member"] (defScope (topS 73)) := ⟨rfl, rfl, rfl, by decide +kernel, rfl, by decide +kernel, by decide +kernel⟩
theorem ok_blocks_of {cs : Cs} (g : GF K mg) (D : D0 K mg "blocks_of" (topS 73)) (c_bytes_of : C8.Cal P w K mg base 6 "bytes_of" (spBytesOf cs) [])  : C8.Cal P w K mg base 7 "blocks_of" (spBlocksOf cs) [] := by
  refine calD D (fun _ _ _ _ _ _ us hl => match us, hl with | [_], _ => rfl) sc_blocks_of (fun vs H Q E h => by obtain ⟨v, m, rfl, hm, ho, q⟩ := h; rfl) fun f cdv A outer s H vs Q E hr h => ?_
  have hu := hr.units
  have hu1 := hu_of hr
  obtain ⟨v, m, rfl, hm, ho, q⟩ := h
  refine ⟨_, pss_one (ps_ret (pe_op op_divX (pe_callB (cr_lenX (K := K)) rfl g.n_len bo_len (pa_cons (C8.pe_c c_bytes_of hr (by decide) rfl (pa_cons (pv 0) (pa_nil))) (pa_nil))) (C8.pe_gc rfl g.c_BLOCK))), ?_⟩
  have hb := Mem.bytes_le ho
  refine s_ret (ev_is (ev_op (ev_cb1 (ev_call (z := .byt m.bytes.toArray) (ea_cons (ev_var rfl) ea_nil) (fun H1 e Q q E => ⟨v, m, rfl, memR_sta cs m _ _ _ e hm, ho, q⟩)) (rc_lenY (by omega))) ev_c (rv_divI (wide_div (i := (m.bytes.length : Int)) (j := 512) (b := 10) (by decide) (by decide) (by decide) (by decide)))) (congrArg V.int ?_)) q
  show (m.bytes.length : Int) / 512 = ((m.bytes.length / 512 : Nat) : Int)
  omega
/-- a list of members -/
def MemI (cs : Cs) (H : Hp) (vs : List V) (ms : List Mem) : Prop := vs.length = ms.length ∧ ∀ (i : Nat) (v : V) (m : Mem), vs[i]? = some v → ms[i]? = some m → MemR cs m v H
theorem MemI.ex {cs : Cs} {H H' : Hp} {vs : List V} {ms : List Mem} (e : Ex H H') (h : MemI cs H vs ms) : MemI cs H' vs ms := ⟨h.1, fun i v m h1 h2 => memR_sta cs m _ _ _ e (h.2 i v m h1 h2)⟩
def writtenB (ms : List Mem) : List UInt8 := (ms.map Mem.bytes).flatten ++ zs 1024
theorem flat_bytes_le (ms : List Mem) (h : ∀ m ∈ ms, m.ok) : ((ms.map Mem.bytes).flatten).length ≤ 400000 * ms.length := by
  induction ms with
  | nil => simp
  | cons m r ih =>
    have h1 := ih fun y hy => h y (List.mem_cons_of_mem _ hy)
    have h2 := Mem.bytes_le (h m (List.mem_cons_self ..))
    simp only [List.map_cons, List.flatten_cons, List.length_append, List.length_cons]
    rw [Nat.mul_add]
    omega
def spWritten (K : PySem.W.Frag) (cs : Cs) : Sp := fun vs H Q _ => ∃ (a : Addr) (us : List V) (ms : List Mem), vs = [.ref a] ∧ SqL K H a us ∧ MemI cs H us ms ∧ (∀ m ∈ ms, m.ok) ∧ ms.length ≤ 1000 ∧ ((ms.map Mem.bytes).flatten).length ≤ 10000000 ∧ Ret (.byt (writtenB ms).toArray) H Q
theorem sc_written : FnScope ["members", "member"] ["members"] (defScope (topS 74)) := ⟨rfl, rfl, rfl, by decide +kernel, rfl, by decide +kernel, by decide +kernel⟩
theorem ok_written {cs : Cs} (g : GF K mg) (D : D0 K mg "written" (topS 74)) (c_bytes_of : C8.Cal P w K mg base 6 "bytes_of" (spBytesOf cs) [])  : C8.Cal P w K mg base 7 "written" (spWritten K cs) [] := by
  refine calD D (fun _ _ _ _ _ _ us hl => match us, hl with | [_], _ => rfl) sc_written (fun vs H Q E h => by obtain ⟨a, us, ms, rfl, ha, hm, ho, hl, hz, q⟩ := h; rfl) fun f cdv A outer s H vs Q E hr h => ?_
  have hu := hr.units
  have hu1 := hu_of hr
  obtain ⟨a, us, ms, rfl, ha, hm, ho, hl, hz, q⟩ := h
  refine ⟨_, pss_one (ps_ret (pe_op op_addX (pe_mG ty_byt PySem.W.FB.plainAttrs_bytes slB_join tpB_join mt_bjoin (pe_byt) (pa_cons (pe_lc (own := [("member", 1)]) (tt := tYes) rfl sc_written.nd (pi_listK (K := K) (pv 0)) (blkOk_by (N := ["members", "member"]) (sc := defScope (topS 74)) (by decide +kernel)) (fun _ _ _ _ _ => pg_name (i := 1) sc_written.nd rfl (Or.inl rfl)) (fun _ _ _ _ _ => pts_nil) (fun _ _ _ _ _ => C8.pe_c c_bytes_of hr (by decide) rfl (pa_cons (pv 1) (pa_nil)))) (pa_nil))) (pe_callTy call_bytes_n rfl g.n_bytes bo_bytes (pa_cons (C8.pe_gc rfl g.c_END_SIZE) (pa_nil))))), ?_⟩
  have g : EvL (tLc (iList K (tVar 0)) (gName 1) tYes (tCall (spBytesOf cs) [] C8.E0 (tCons (tVar 1) tNil)) [1]) (L2.start ["members", "member"] [.ref a]) H ((ms.map Mem.bytes).map fun b => V.byt b.toArray) := by
    have g := er_lcP (σ := L2.start ["members", "member"] [.ref a]) (H := H) (te := tCall (spBytesOf cs) [] C8.E0 (tCons (tVar 1) tNil)) (wi := iList K (tVar 0)) (g := gName 1) (vs := [1]) (fun i => (wipe (L2.start ["members", "member"] [.ref a]) [1]).set 1 (some (us.getD i .non))) (fun i x _ => x = V.byt ((ms.map Mem.bytes).getD i []).toArray) (walk_list (K := K) (a := a) (xs := us)) (fun _ _ _ _ _ h => h) (by have := hm.1; omega) (fun H1 e Rr q => ev_var rfl H1 e _ fun H2 e2 => ⟨a, rfl, ⟨_, ex_l (e.trans e2) ha⟩, q H2 e2⟩) (fun H1 e => ex_l e ha) (fun i x H1 H2 Qc hi e y q => ?_) (fun i _ => rfl) (fun i hi => ?_)
    · refine g.evl fun xs H1 r => ?_
      have e2 := itm_eq (f := fun i => V.byt ((ms.map Mem.bytes).getD i []).toArray) r
      rw [e2, hm.1, ← List.length_map (as := ms) (f := Mem.bytes)]
      exact map_range_getD (ms.map Mem.bytes) [] fun b => V.byt b.toArray
    · obtain ⟨rfl, hx⟩ := y
      have := q _ (Ex.refl _)
      rw [List.getD_eq_getElem?_getD, hx] at this
      exact this
    · have hz2 : us[i]? = some us[i] := List.getElem?_eq_getElem hi
      have hi2 : i < ms.length := by rw [← hm.1]; exact hi
      have hz3 : ms[i]? = some ms[i] := List.getElem?_eq_getElem hi2
      have hmr := hm.2 i _ _ hz2 hz3
      rw [List.getD_eq_getElem?_getD, hz2, List.getD_eq_getElem?_getD, List.getElem?_map, hz3]
      exact Er.of (ev_call (z := .byt ms[i].bytes.toArray) (ea_cons (ev_var rfl) ea_nil) (fun H1 e Q q E => ⟨us[i], ms[i], rfl, memR_sta cs _ _ _ _ e hmr, ho _ (List.getElem_mem hi2), q⟩)) fun _ _ => rfl
  exact s_ret (v := .byt (writtenB ms).toArray) (ev_op (ev_bjoin g (by omega)) (ev_cb1 ev_c (rc_bytNn (n := 1024) (by omega))) (rv_addY (by rw [zs_len]; omega))) q
end
end Tar

/-! TaZ1 -/
set_option Elab.async false
set_option linter.all false
set_option maxRecDepth 100000
set_option maxHeartbeats 4000000
/-! list(zip(a, b, strict=True)) of two lists of one length: the library's level -/
namespace Tar
namespace Zs
open PySem
open PySem.Sem (wp)
abbrev IsZipS (h : Heap) (z TI TO : Addr) (f0 : Value) (f1 : Bool) : Prop :=
  h.get? z = some { cls := .type "zip", dict := none, data := .fields #[f0, .bool f1, .bool true, .ref TI, .ref TO], slots := #[] }
def Z0 (f0 : Value) : Prop := f0 = .none ∨ ∃ T : Nat, f0 = rawInt T
section
variable {prog : Program} {w : World} {A : Around} {E : Value → Shared → Prop} {s : Shared}
theorem orEnd_item {it l : Addr} {i : Nat} {items} {x : Value} {Q : Option Value → Shared → Prop} (hit : s.heap.IsListIter it l i) (hl : s.heap.IsList l items) (hx : items[i]? = some x)
    (hQ : ∀ h', h'.IsListIter it l (i + 1) → Heap.SameBut it s.heap h' → Q (some x) { s with heap := h' }) : wpAny (model prog w) A (Builtin.SmallTypes.nextOrEnd (.ref it)) Q E s := by
  unfold Builtin.SmallTypes.nextOrEnd
  exact wpAny_bind (wpAny_attempt (wpAny_nextOf_list_item hit hl hx fun h' a b => wpAny_pure (hQ h' a b)))
theorem orEnd_end {it l : Addr} {i : Nat} {items} {Q : Option Value → Shared → Prop} (hh : A.handled = none) (hit : s.heap.IsListIter it l i) (hl : s.heap.IsList l items) (hx : items[i]? = none)
    (hQ : ∀ h', Heap.ExtBut it s.heap h' → Q none { s with heap := h' }) : wpAny (model prog w) A (Builtin.SmallTypes.nextOrEnd (.ref it)) Q E s := by
  unfold Builtin.SmallTypes.nextOrEnd
  refine wpAny_bind (wpAny_attempt (wpAny_nextOf_list_end hh hit hl hx fun h' e he hx' => ?_))
  obtain ⟨o, ho, hc⟩ := hx'
  refine wpAny_bind (wpAny_isInstance (T := "StopIteration") (b := true) ⟨o, ho, hc⟩ isSubtype_stop ?_)
  exact wpAny_pure (hQ _ he)
theorem alive_any {a : Addr} {Q : Option Obj → Shared → Prop} (h : Q (s.heap.get? a) s) : wpAny (model prog w) A (loadIfAlive a) Q E s := fun _ _ _ => h
theorem isFree {z TI TO : Addr} {f0 : Value} {f1 : Bool} {Q : Bool → Shared → Prop} (hf : Z0 f0) (hz : IsZipS s.heap z TI TO f0 f1) (h1 : Q true s) (h2 : ∀ h' (T : Nat), IsZipS h' z TI TO (rawInt T) true → Heap.SameBut z s.heap h' → Q false { s with heap := h' }) :
    wpAny (model prog w) A (Builtin.SmallTypes.ownedTupleIsFree (.ref z)) Q E s := by
  unfold Builtin.SmallTypes.ownedTupleIsFree
  rcases hf with rfl | ⟨T, rfl⟩
  · exact wpAny_bind (wpAny_field hz rfl (x := .none) rfl (wpAny_pure h1))
  · refine wpAny_bind (wpAny_field hz rfl (x := rawInt T) rfl ?_)
    show wpAny _ _ (loadIfAlive ((T : Int).toNat) >>= _) _ _ _
    rw [Int.toNat_natCast]
    refine wpAny_bind (alive_any ?_)
    cases ho : s.heap.get? T with
    | none => exact wpAny_pure h1
    | some o =>
      simp only [Option.isNone_some, Bool.false_eq_true, if_false]
      refine wpAny_bind (wpAny_field hz rfl (x := .bool f1) rfl ?_)
      cases f1 with
      | true =>
        rw [if_neg (show ¬ ((Value.bool true != Value.bool true) = true) from Bool.false_ne_true)]
        exact wpAny_pure (h2 s.heap T hz (Heap.SameBut.refl _ _))
      | false =>
        rw [if_pos (show (Value.bool false != Value.bool true) = true from rfl)]
        exact wpAny_bind (wpAny_setField_rec hz (by simp) fun h₁ hz₁ hs₁ => wpAny_pure (h2 h₁ T hz₁ hs₁))
/-- one turn -/
theorem next_item {z TI TO i1 i2 l1 l2 : Addr} {k1 k2 : Nat} {xs ys : Array Value} {x y a b f0 : Value} {f1 : Bool} {Q : Value → Shared → Prop} (D : ZipApart z TI TO i1 i2 l1 l2) (hf : Z0 f0)
    (hz : IsZipS s.heap z TI TO f0 f1) (hTI : IsPair s.heap TI (.ref i1) (.ref i2)) (hTO : IsPair s.heap TO a b)
    (h1 : s.heap.IsListIter i1 l1 k1) (h2 : s.heap.IsListIter i2 l2 k2) (hl1 : s.heap.IsList l1 xs) (hl2 : s.heap.IsList l2 ys) (hx : xs[k1]? = some x) (hy : ys[k2]? = some y)
    (hQ : ∀ h' (T : Nat) f, IsZipS h' z TI TO (rawInt T) f → (∃ a b, IsPair h' TO a b) → h'.IsListIter i1 l1 (k1 + 1) → h'.IsListIter i2 l2 (k2 + 1) → IsPair h' s.heap.objs.size x y → h'.objs.size = s.heap.objs.size + 1 →
      (∀ c o, c ≠ z → c ≠ TO → c ≠ i1 → c ≠ i2 → s.heap.get? c = some o → h'.get? c = some o) → Q (.ref s.heap.objs.size) { s with heap := h' }) :
    wpAny (model prog w) A (Builtin.«zip.__next__» ⟨[.ref z], []⟩) (fun fin s' => ∃ v, fin = .done (.ret v) ∧ Q v s') E s := by
  show wpAny _ _ (field (.ref z) 2 >>= _) _ _ _
  refine wpAny_bind (wpAny_field hz rfl (x := .bool true) rfl ?_)
  show wpAny _ _ (field (.ref z) 3 >>= _) _ _ _
  refine wpAny_bind (wpAny_field hz rfl (x := .ref TI) rfl ?_)
  refine wpAny_bind (wpAny_seqItems hTI rfl ?_)
  show wpAny _ _ (Builtin.SmallTypes.ownedTupleIsFree (.ref z) >>= _) _ _ _
  refine wpAny_bind (isFree hf hz ?_ fun h₁ T hz₁ hs₁ => ?_)
  · simp only [if_true]
    refine wpAny_bind (wpAny_rule ?_)
    refine wpAny_bind (wpAny_field hz rfl (x := .ref TO) rfl ?_)
    refine wpAny_bind (wpAny_setField_rec hz (by simp) fun h₁ hz₁ hs₁ => ?_)
    replace hz₁ : IsZipS h₁ z TI TO .ellipsis f1 := hz₁
    refine wpAny_bind ?_
    simp only [List.zipIdx_cons, List.zipIdx_nil, List.forIn_cons, List.forIn_nil]
    refine wpAny_bind (wpAny_bind (wpAny_onRaise ?_))
    show wpAny _ _ (Builtin.SmallTypes.nextOrEnd (.ref i1)) _ _ _
    refine orEnd_item (s := { s with heap := h₁ }) (h1.extBut hs₁.extBut D.i1z) (hl1.extBut hs₁.extBut D.l1z) hx fun h₂ h1₂ hs₂ => ?_
    have hTO₂ : IsPair h₂ TO a b := hs₂.extBut _ _ D.TOi1 (hs₁.extBut _ _ D.TOz hTO)
    refine wpAny_bind (wpAny_seqItems hTO₂ rfl ?_)
    refine wpAny_bind (wpAny_updateSeq_pair hTO₂ fun h₃ hTO₃ hs₃ => ?_)
    replace hTO₃ : IsPair h₃ TO x b := hTO₃
    refine wpAny_bind (wpAny_letGo (wpAny_pure ?_))
    refine wpAny_bind (wpAny_bind (wpAny_onRaise ?_))
    show wpAny _ _ (Builtin.SmallTypes.nextOrEnd (.ref i2)) _ _ _
    refine orEnd_item (s := { s with heap := h₃ }) (((h2.extBut hs₁.extBut D.i2z).extBut hs₂.extBut D.i12.symm).extBut hs₃.extBut D.TOi2.symm)
      (((hl2.extBut hs₁.extBut D.l2z).extBut hs₂.extBut D.l2i1).extBut hs₃.extBut D.l2TO) hy fun h₄ h2₄ hs₄ => ?_
    have hTO₄ : IsPair h₄ TO x b := hs₄.extBut _ _ D.TOi2 hTO₃
    refine wpAny_bind (wpAny_seqItems hTO₄ rfl ?_)
    refine wpAny_bind (wpAny_updateSeq_pair hTO₄ fun h₅ hTO₅ hs₅ => ?_)
    replace hTO₅ : IsPair h₅ TO x y := hTO₅
    refine wpAny_bind (wpAny_letGo (wpAny_pure (wpAny_pure ?_)))
    refine wpAny_bind (wpAny_seqItems hTO₅ rfl ?_)
    refine wpAny_bind (wpAny_newTuple ?_)
    have hsz : h₅.objs.size = s.heap.objs.size := by rw [hs₅.1, hs₄.1, hs₃.1, hs₂.1, hs₁.1]
    have hz₅ : IsZipS h₅ z TI TO .ellipsis f1 := hs₅.extBut _ _ D.TOz.symm (hs₄.extBut _ _ D.i2z.symm (hs₃.extBut _ _ D.TOz.symm (hs₂.extBut _ _ D.i1z.symm hz₁)))
    have hk₅ : ∀ c o, c ≠ z → c ≠ TO → c ≠ i1 → c ≠ i2 → s.heap.get? c = some o → h₅.get? c = some o := fun c o c1 c2 c3 c4 e =>
      hs₅.extBut _ _ c2 (hs₄.extBut _ _ c4 (hs₃.extBut _ _ c2 (hs₂.extBut _ _ c3 (hs₁.extBut _ _ c1 e))))
    have h1₅ : h₅.IsListIter i1 l1 (k1 + 1) := ((h1₂.extBut hs₃.extBut D.TOi1.symm).extBut hs₄.extBut D.i12).extBut hs₅.extBut D.TOi1.symm
    have h2₅ : h₅.IsListIter i2 l2 (k2 + 1) := h2₄.extBut hs₅.extBut D.TOi2.symm
    have hzlt : z < h₅.objs.size := Heap.lt_size hz₅
    show wpAny _ _ (Builtin.SmallTypes.ownedTupleHandOut (.ref z) (.ref h₅.objs.size) >>= _) _ _ _
    refine wpAny_bind ?_
    unfold Builtin.SmallTypes.ownedTupleHandOut
    have hz₆ : IsZipS (h₅.push { cls := .type "tuple", data := .seq #[x, y] }) z TI TO .ellipsis f1 := Heap.get?_push_of_some _ hz₅
    refine wpAny_bind (wpAny_setField_rec hz₆ (by simp) fun h₇ hz₇ hs₇ => ?_)
    replace hz₇ : IsZipS h₇ z TI TO (rawInt h₅.objs.size) f1 := hz₇
    refine wpAny_setField_rec hz₇ (by simp) fun h₈ hz₈ hs₈ => ?_
    replace hz₈ : IsZipS h₈ z TI TO (rawInt h₅.objs.size) false := hz₈
    have up : ∀ c o, c ≠ z → h₅.get? c = some o → h₈.get? c = some o := fun c o c1 e => hs₈.extBut _ _ c1 (hs₇.extBut _ _ c1 (Heap.get?_push_of_some _ e))
    have hT₈ : IsPair h₈ h₅.objs.size x y := hs₈.extBut _ _ (Nat.ne_of_gt hzlt) (hs₇.extBut _ _ (Nat.ne_of_gt hzlt) (Heap.get?_push_size _ rfl))
    have hz8 : h₈.objs.size = h₅.objs.size + 1 := by rw [hs₈.1, hs₇.1, Heap.size_push]
    rw [hsz] at hz₈ hT₈ hz8
    refine wpAny_pure ⟨_, rfl, ?_⟩
    show Q (.ref h₅.objs.size) _
    rw [hsz]
    exact hQ h₈ _ _ hz₈ ⟨_, _, up _ _ D.TOz hTO₅⟩ (h1₅.at fun o e => up _ o D.i1z e) (h2₅.at fun o e => up _ o D.i2z e) hT₈ hz8 fun c o c1 c2 c3 c4 e => up c o c1 (hk₅ c o c1 c2 c3 c4 e)
  · simp only [Bool.false_eq_true, if_false]
    refine wpAny_bind ?_
    rw [← Array.forIn_toList]
    simp only [List.forIn_cons, List.forIn_nil]
    refine wpAny_bind (wpAny_bind (wpAny_holding ?_))
    show wpAny _ _ (Builtin.SmallTypes.nextOrEnd (.ref i1)) _ _ _
    refine orEnd_item (s := { s with heap := h₁ }) (h1.extBut hs₁.extBut D.i1z) (hl1.extBut hs₁.extBut D.l1z) hx fun h₂ h1₂ hs₂ => ?_
    refine wpAny_pure ?_
    refine wpAny_bind (wpAny_bind (wpAny_holding ?_))
    show wpAny _ _ (Builtin.SmallTypes.nextOrEnd (.ref i2)) _ _ _
    refine orEnd_item (s := { s with heap := h₂ }) ((h2.extBut hs₁.extBut D.i2z).extBut hs₂.extBut D.i12.symm) ((hl2.extBut hs₁.extBut D.l2z).extBut hs₂.extBut D.l2i1) hy fun h₃ h2₃ hs₃ => ?_
    refine wpAny_pure (wpAny_pure ?_)
    show wpAny _ _ (newTuple [x, y] >>= _) _ _ _
    refine wpAny_bind (wpAny_newTuple ?_)
    have hsz : h₃.objs.size = s.heap.objs.size := by rw [hs₃.1, hs₂.1, hs₁.1]
    have hz₃ : IsZipS h₃ z TI TO (rawInt T) true := hs₃.extBut _ _ D.i2z.symm (hs₂.extBut _ _ D.i1z.symm hz₁)
    have hk : ∀ c o, c ≠ z → c ≠ i1 → c ≠ i2 → s.heap.get? c = some o → h₃.get? c = some o := fun c o c1 c2 c3 e => hs₃.extBut _ _ c3 (hs₂.extBut _ _ c2 (hs₁.extBut _ _ c1 e))
    have h1₃ : h₃.IsListIter i1 l1 (k1 + 1) := h1₂.extBut hs₃.extBut D.i12
    refine wpAny_pure ⟨_, rfl, ?_⟩
    show Q (.ref h₃.objs.size) _
    have hp : IsPair (h₃.push { cls := .type "tuple", data := .seq #[x, y] }) h₃.objs.size x y := Heap.get?_push_size _ rfl
    have hz4 : (h₃.push { cls := .type "tuple", data := .seq #[x, y] }).objs.size = h₃.objs.size + 1 := Heap.size_push ..
    rw [hsz] at hp hz4 ⊢
    exact hQ _ T true (Heap.get?_push_of_some _ hz₃) ⟨a, b, Heap.get?_push_of_some _ (hk _ _ D.TOz D.TOi1 D.TOi2 hTO)⟩ (h1₃.at fun o e => Heap.get?_push_of_some _ e) (h2₃.at fun o e => Heap.get?_push_of_some _ e) hp hz4 fun c o c1 c2 c3 c4 e => Heap.get?_push_of_some _ (hk c o c1 c3 c4 e)
theorem stop_any {Q : Fin → Shared → Prop} (hh : A.handled = none) (h : ∀ h' e, (∀ c o, s.heap.get? c = some o → h'.get? c = some o) → (∃ o, h'.get? e = some o ∧ o.cls = .type "StopIteration") → E (.ref e) { s with heap := h' }) :
    wpAny (model prog w) A (Builtin.SmallTypes.stopIteration : Sem Fin) Q E s := by
  show wpAny _ _ (newExc (.type "StopIteration") [] >>= _) _ _ _
  refine wpAny_bind ?_
  simp only [newExc, newTuple]
  refine wpAny_bind (wpAny_newObj_type ?_ (by size_fits))
  refine wpAny_bind (m := firstArgMember _ _) (wpAny_of_eq (a := Value.none) (by first | rfl | (simp only [firstArgMember]; rfl)) ?_)
  refine wpAny_newObj_type ?_ (by size_fits)
  simp only [raiseNew]
  refine wpAny_bind (wpAny_handled ?_)
  first | rw [show A.in1.handled = none from hh] | rw [hh]
  refine wpAny_bind (wpAny_pure (wpAny_throw ?_))
  exact h _ _ (fun c o e => Heap.get?_push_of_some _ (Heap.get?_push_of_some _ e)) ⟨_, Heap.get?_push_size _ rfl, rfl⟩
/-- both at their end -/
theorem next_end {z TI TO i1 i2 l1 l2 : Addr} {k1 k2 : Nat} {xs ys : Array Value} {a b f0 : Value} {f1 : Bool} {Q : Fin → Shared → Prop} (hh : A.handled = none) (D : ZipApart z TI TO i1 i2 l1 l2) (hf : Z0 f0)
    (hz : IsZipS s.heap z TI TO f0 f1) (hTI : IsPair s.heap TI (.ref i1) (.ref i2)) (hTO : IsPair s.heap TO a b)
    (h1 : s.heap.IsListIter i1 l1 k1) (h2 : s.heap.IsListIter i2 l2 k2) (hl1 : s.heap.IsList l1 xs) (hl2 : s.heap.IsList l2 ys) (hx : xs[k1]? = none) (hy : ys[k2]? = none)
    (hE : ∀ h' e, (∀ c o, c ≠ z → c ≠ TO → c ≠ i1 → c ≠ i2 → s.heap.get? c = some o → h'.get? c = some o) → (∃ o, h'.get? e = some o ∧ o.cls = .type "StopIteration") → E (.ref e) { s with heap := h' }) :
    wpAny (model prog w) A (Builtin.«zip.__next__» ⟨[.ref z], []⟩) Q E s := by
  show wpAny _ _ (field (.ref z) 2 >>= _) _ _ _
  refine wpAny_bind (wpAny_field hz rfl (x := .bool true) rfl ?_)
  show wpAny _ _ (field (.ref z) 3 >>= _) _ _ _
  refine wpAny_bind (wpAny_field hz rfl (x := .ref TI) rfl ?_)
  refine wpAny_bind (wpAny_seqItems hTI rfl ?_)
  show wpAny _ _ (Builtin.SmallTypes.ownedTupleIsFree (.ref z) >>= _) _ _ _
  refine wpAny_bind (isFree hf hz ?_ fun h₁ T hz₁ hs₁ => ?_)
  · simp only [if_true]
    refine wpAny_bind (wpAny_rule ?_)
    refine wpAny_bind (wpAny_field hz rfl (x := .ref TO) rfl ?_)
    refine wpAny_bind (wpAny_setField_rec hz (by simp) fun h₁ hz₁ hs₁ => ?_)
    replace hz₁ : IsZipS h₁ z TI TO .ellipsis f1 := hz₁
    refine wpAny_bind ?_
    simp only [List.zipIdx_cons, List.zipIdx_nil, List.forIn_cons, List.forIn_nil]
    refine wpAny_bind (wpAny_bind (wpAny_onRaise ?_))
    show wpAny _ _ (Builtin.SmallTypes.nextOrEnd (.ref i1)) _ _ _
    refine orEnd_end (s := { s with heap := h₁ }) hh (h1.extBut hs₁.extBut D.i1z) (hl1.extBut hs₁.extBut D.l1z) hx fun h₂ hs₂ => ?_
    have hz₂ : IsZipS h₂ z TI TO .ellipsis f1 := hs₂ _ _ D.i1z.symm hz₁
    refine wpAny_bind (wpAny_setField_rec hz₂ (by simp) fun h₃ hz₃ hs₃ => ?_)
    refine wpAny_bind ?_
    show wpAny _ _ (((Builtin.SmallTypes.nextOrEnd (.ref i2) >>= _) >>= _) >>= _) _ _ _
    refine wpAny_bind (wpAny_bind (wpAny_bind ?_))
    refine orEnd_end (s := { s with heap := h₃ }) hh (((h2.extBut hs₁.extBut D.i2z).extBut hs₂ D.i12.symm).extBut hs₃.extBut D.i2z) (((hl2.extBut hs₁.extBut D.l2z).extBut hs₂ D.l2i1).extBut hs₃.extBut D.l2z) hy fun h₄ hs₄ => ?_
    refine wpAny_pure (wpAny_pure ?_)
    refine wpAny_bind (wpAny_rule ?_)
    refine stop_any hh fun h₅ e he ho => hE h₅ e (fun c o c1 c2 c3 c4 q => he _ _ (hs₄ _ _ c4 (hs₃.extBut _ _ c1 (hs₂ _ _ c3 (hs₁.extBut _ _ c1 q))))) ho
  · simp only [Bool.false_eq_true, if_false]
    refine wpAny_bind ?_
    rw [← Array.forIn_toList]
    simp only [List.forIn_cons, List.forIn_nil]
    refine wpAny_bind (wpAny_bind (wpAny_holding ?_))
    show wpAny _ _ (Builtin.SmallTypes.nextOrEnd (.ref i1)) _ _ _
    refine orEnd_end (s := { s with heap := h₁ }) hh (h1.extBut hs₁.extBut D.i1z) (hl1.extBut hs₁.extBut D.l1z) hx fun h₂ hs₂ => ?_
    dsimp only
    refine wpAny_bind ?_
    show wpAny _ _ (((Builtin.SmallTypes.nextOrEnd (.ref i2) >>= _) >>= _) >>= _) _ _ _
    refine wpAny_bind (wpAny_bind (wpAny_bind ?_))
    refine orEnd_end (s := { s with heap := h₂ }) hh ((h2.extBut hs₁.extBut D.i2z).extBut hs₂ D.i12.symm) ((hl2.extBut hs₁.extBut D.l2z).extBut hs₂ D.l2i1) hy fun h₃ hs₃ => ?_
    refine wpAny_pure (wpAny_pure ?_)
    refine wpAny_bind (wpAny_rule ?_)
    refine stop_any hh fun h₅ e he ho => hE h₅ e (fun c o c1 c2 c3 c4 q => he _ _ (hs₃ _ _ c4 (hs₂ _ _ c3 (hs₁.extBut _ _ c1 q)))) ho
theorem pyNext_item {z TI TO i1 i2 l1 l2 : Addr} {k1 k2 : Nat} {xs ys : Array Value} {x y a b f0 : Value} {f1 : Bool} {Q : Option Value → Shared → Prop} (D : ZipApart z TI TO i1 i2 l1 l2) (hf : Z0 f0)
    (hz : IsZipS s.heap z TI TO f0 f1) (hTI : IsPair s.heap TI (.ref i1) (.ref i2)) (hTO : IsPair s.heap TO a b)
    (h1 : s.heap.IsListIter i1 l1 k1) (h2 : s.heap.IsListIter i2 l2 k2) (hl1 : s.heap.IsList l1 xs) (hl2 : s.heap.IsList l2 ys) (hx : xs[k1]? = some x) (hy : ys[k2]? = some y)
    (hQ : ∀ h' (T : Nat) f, IsZipS h' z TI TO (rawInt T) f → (∃ a b, IsPair h' TO a b) → h'.IsListIter i1 l1 (k1 + 1) → h'.IsListIter i2 l2 (k2 + 1) → IsPair h' s.heap.objs.size x y → h'.objs.size = s.heap.objs.size + 1 →
      (∀ c o, c ≠ z → c ≠ TO → c ≠ i1 → c ≠ i2 → s.heap.get? c = some o → h'.get? c = some o) → Q (some (.ref s.heap.objs.size)) { s with heap := h' }) :
    wpAny (model prog w) A (pyNext (.ref z)) Q E s := by
  have hT : s.TypeIs (.ref z) "zip" := ⟨_, hz, rfl⟩
  unfold pyNext
  exact wpAny_bind (wpAny_attempt (wpAny_callSpecial?_slot (name := Str.ofString "__next__") hT F.slot_zip_next
    (wpAny_call_entry F.slot_zip_next hT F.entry_zip_next
      (next_item D hf hz hTI hTO h1 h2 hl1 hl2 hx hy fun h' T f a1 a2 a3 a4 a5 a6 a7 => wpAny_pure (hQ h' T f a1 a2 a3 a4 a5 a6 a7)) (F.args_zip_next_1 _))))
theorem pyNext_end {z TI TO i1 i2 l1 l2 : Addr} {k1 k2 : Nat} {xs ys : Array Value} {a b f0 : Value} {f1 : Bool} {Q : Option Value → Shared → Prop} (hh : A.handled = none) (D : ZipApart z TI TO i1 i2 l1 l2) (hf : Z0 f0)
    (hz : IsZipS s.heap z TI TO f0 f1) (hTI : IsPair s.heap TI (.ref i1) (.ref i2)) (hTO : IsPair s.heap TO a b)
    (h1 : s.heap.IsListIter i1 l1 k1) (h2 : s.heap.IsListIter i2 l2 k2) (hl1 : s.heap.IsList l1 xs) (hl2 : s.heap.IsList l2 ys) (hx : xs[k1]? = none) (hy : ys[k2]? = none)
    (hQ : ∀ h', (∀ c o, c ≠ z → c ≠ TO → c ≠ i1 → c ≠ i2 → s.heap.get? c = some o → h'.get? c = some o) → Q none { s with heap := h' }) : wpAny (model prog w) A (pyNext (.ref z)) Q E s := by
  have hT : s.TypeIs (.ref z) "zip" := ⟨_, hz, rfl⟩
  unfold pyNext
  refine wpAny_bind (wpAny_attempt (wpAny_callSpecial?_slot (name := Str.ofString "__next__") hT F.slot_zip_next
    (wpAny_call_entry F.slot_zip_next hT F.entry_zip_next (next_end hh D hf hz hTI hTO h1 h2 hl1 hl2 hx hy fun h' e hk he => ?_) (F.args_zip_next_1 _))))
  obtain ⟨o, ho, hc⟩ := he
  refine wpAny_bind (wpAny_isInstance (T := "StopIteration") (b := true) ⟨o, ho, hc⟩ isSubtype_stop ?_)
  exact wpAny_pure (hQ _ hk)
theorem pyIter_zipS {z TI TO : Addr} {f0 : Value} {f1 : Bool} {Q : Value → Shared → Prop} (hz : IsZipS s.heap z TI TO f0 f1) (h : Q (.ref z) s) : wpAny (model prog w) A (pyIter (.ref z)) Q E s := by
  have hT : s.TypeIs (.ref z) "zip" := ⟨_, hz, rfl⟩
  refine wpAny_pyIter_slot hT F.slot_zip_iter (wpAny_call_entry F.slot_zip_iter hT F.entry_zip_iter ?_ (F.args_zip_iter_1 _))
  show wpAny _ _ (ret (.ref z)) _ _ s
  exact wpAny_pure ⟨_, rfl, "zip", _, hT, F.slot_zip_next.lookup, h⟩
theorem typeCall_strict (a b c : Value) : checkTypeCall "zip" ⟨[a, b], [(Str.ofString "strict", c)]⟩ = pure () := by kernel_rfl
theorem newCall_strict (a b c : Value) : checkBuiltinCall "zip.__new__" ⟨[.type "zip", a, b], [(Str.ofString "strict", c)]⟩ = pure () := by kernel_rfl
theorem args_init_strict (obj a b c : Value) : argsOk "object.__init__" ⟨[obj, a, b], [(Str.ofString "strict", c)]⟩ := by unfold argsOk; kernel_rfl
abbrev zipS5 (h : Heap) (l1 l2 : Addr) : Heap := (zipH4 h l1 l2).push { cls := .type "zip", data := .fields #[.none, .bool false, .bool true, .ref (zipH2 h l1 l2).objs.size, .ref (zipH3 h l1 l2).objs.size] }
theorem meets_zipS_new (l1 l2 : Addr) (xs ys : Array Value) :
    Meets (Builtin.«zip.__new__» ⟨[.type "zip", .ref l1, .ref l2], [(Str.ofString "strict", .bool true)]⟩) (fun _ R s => s.heap.IsList l1 xs ∧ s.heap.IsList l2 ys ∧
      R (.ok (.ret (.ref (zipH4 s.heap l1 l2).objs.size))) { s with heap := zipS5 s.heap l1 l2 }) :=
  .of_wp fun prog w A R s h => by
    obtain ⟨hp, g, d, tk, os⟩ := s; obtain ⟨hl1, hl2, h⟩ := h
    have hsub := sub_zip
    have hL1 : Heap.IsList (Shared.heap ⟨hp, g, d, tk, os⟩) l1 xs := hl1
    have hL2 : Heap.IsList (Shared.heap ⟨hp.push { cls := .type "list_iterator", data := .fields #[.ref l1, .int 0 0] }, g, d, tk, os⟩) l2 ys := Heap.IsList.push hl2 _
    have e2 : (Str.ofString "strict" != ("strict" : Str)) = false := by decide +kernel
    wp_walk using wpAny_pyIter_list hL1, wpAny_pyIter_list hL2
    exact ⟨_, rfl, h⟩
theorem call_zipS {l1 l2 : Addr} {xs ys : Array Value} {Q : Value → Shared → Prop} (hl1 : s.heap.IsList l1 xs) (hl2 : s.heap.IsList l2 ys)
    (h : ∀ h', IsZipS h' (s.heap.objs.size + 4) (s.heap.objs.size + 2) (s.heap.objs.size + 3) .none false → IsPair h' (s.heap.objs.size + 2) (.ref s.heap.objs.size) (.ref (s.heap.objs.size + 1)) →
      IsPair h' (s.heap.objs.size + 3) .none .none → h'.IsListIter s.heap.objs.size l1 0 → h'.IsListIter (s.heap.objs.size + 1) l2 0 → h'.objs.size = s.heap.objs.size + 5 →
      (∀ c o, s.heap.get? c = some o → h'.get? c = some o) → Q (.ref (s.heap.objs.size + 4)) { s with heap := h' }) :
    wpAny (model prog w) A (call (.type "zip") [.ref l1, .ref l2] [(Str.ofString "strict", .bool true)]) Q E s := by
  refine callType_newKw F.called_zip (by decide) (typeCall_strict _ _ _) (newCall_strict _ _ _) (fun obj => args_init_strict obj _ _ _) F.entry_zip_new
    (meets_zipS_new l1 l2 xs ys) ⟨hl1, hl2, ?_⟩
  have z1 : (zipH1 s.heap l1).objs.size = s.heap.objs.size + 1 := Heap.size_push ..
  have z2 : (zipH2 s.heap l1 l2).objs.size = s.heap.objs.size + 2 := by rw [Heap.size_push, z1]
  have z3 : (zipH3 s.heap l1 l2).objs.size = s.heap.objs.size + 3 := by rw [Heap.size_push, z2]
  have z4 : (zipH4 s.heap l1 l2).objs.size = s.heap.objs.size + 4 := by rw [Heap.size_push, z3]
  have z5 : (zipS5 s.heap l1 l2).objs.size = s.heap.objs.size + 5 := by rw [Heap.size_push, z4]
  have g5 : (zipS5 s.heap l1 l2).get? (zipH4 s.heap l1 l2).objs.size = some _ := Heap.get?_push_size _ rfl
  have g4 : (zipS5 s.heap l1 l2).get? (zipH3 s.heap l1 l2).objs.size = some _ := Heap.get?_push_of_some _ (Heap.get?_push_size _ rfl)
  have g3 : (zipS5 s.heap l1 l2).get? (zipH2 s.heap l1 l2).objs.size = some _ := Heap.get?_push_of_some _ (Heap.get?_push_of_some _ (Heap.get?_push_size _ rfl))
  have g2 : (zipS5 s.heap l1 l2).get? (zipH1 s.heap l1).objs.size = some _ := Heap.get?_push_of_some _ (Heap.get?_push_of_some _ (Heap.get?_push_of_some _ (Heap.get?_push_size _ rfl)))
  have g1 : (zipS5 s.heap l1 l2).get? s.heap.objs.size = some _ := Heap.get?_push_of_some _ (Heap.get?_push_of_some _ (Heap.get?_push_of_some _ (Heap.get?_push_of_some _ (Heap.get?_push_size _ rfl))))
  show _ ∧ _
  rw [z2, z3, z4] at g5
  rw [z1, z2] at g3
  rw [z3] at g4
  rw [z1] at g2
  rw [z4]
  exact ⟨⟨_, g5, rfl⟩, h _ g5 g3 g4 ⟨_, g1, rfl, rfl⟩ ⟨_, g2, rfl, rfl⟩ z5 fun c o x =>
    Heap.get?_push_of_some _ (Heap.get?_push_of_some _ (Heap.get?_push_of_some _ (Heap.get?_push_of_some _ (Heap.get?_push_of_some _ x))))⟩
end
end Zs
end Tar

/-! TaZ2 -/
set_option Elab.async false
set_option linter.all false
set_option maxRecDepth 100000
set_option maxHeartbeats 400000
/-! list(zip(a, b, strict=True)); a[lo::step] of a list -/
namespace Tar
namespace Zs
open PySem
open PySem.Sem (wp)
def Out (N : Nat) (xs ys : Array Value) (Ts : List Addr) (i : Nat) (h : Heap) : Prop := Ts.length = i ∧ Ts.Nodup ∧ ∀ (j : Nat) (T : Addr), Ts[j]? = some T → N ≤ T ∧ ∃ x y, xs[j]? = some x ∧ ys[j]? = some y ∧ IsPair h T x y
structure ZAt (z TI TO i1 i2 l1 l2 : Addr) (xs ys : Array Value) (i : Nat) (h : Heap) : Prop where
  zip : ∃ f0 f1, Z0 f0 ∧ IsZipS h z TI TO f0 f1
  ti : IsPair h TI (.ref i1) (.ref i2)
  to : ∃ a b, IsPair h TO a b
  i1 : h.IsListIter i1 l1 i
  i2 : h.IsListIter i2 l2 i
  l1 : h.IsList l1 xs
  l2 : h.IsList l2 ys
theorem ZAt.keep {z TI TO i1 i2 l1 l2 : Addr} {xs ys : Array Value} {i : Nat} {h h' : Heap} (Z : ZAt z TI TO i1 i2 l1 l2 xs ys i h) (k : ∀ c ∈ [z, TI, TO, i1, i2, l1, l2], ∀ o, h.get? c = some o → h'.get? c = some o) : ZAt z TI TO i1 i2 l1 l2 xs ys i h' := by
  obtain ⟨⟨f0, f1, hf, hz⟩, hTI, ⟨a, b, hTO⟩, h1, h2, hl1, hl2⟩ := Z
  exact ⟨⟨f0, f1, hf, k z (by simp) _ hz⟩, k TI (by simp) _ hTI, ⟨a, b, k TO (by simp) _ hTO⟩, h1.at fun o q => k i1 (by simp) o q, h2.at fun o q => k i2 (by simp) o q, hl1.at fun o q => k l1 (by simp) o q, hl2.at fun o q => k l2 (by simp) o q⟩
section
variable {prog : Program} {w : World} {A : Around} {E : Value → Shared → Prop} {R : Result → Shared → Prop}
theorem ext_loop {z TI TO i1 i2 l1 l2 S : Addr} {N : Nat} {xs ys : Array Value} {res : Value} (hh : A.handled = none) (D : ZipApart z TI TO i1 i2 l1 l2) (hl : xs.size = ys.size) (hn : xs.size ≤ sizeLine)
    (hS : S < N) (hSn : S ∉ [z, TI, TO, i1, i2, l1, l2]) (hN : ∀ c ∈ [z, TI, TO, i1, i2, l1, l2], c < N) :
    ∀ (k i : Nat) (s : Shared) (Ts : List Addr) (c : Nat), xs.size - i = k → i ≤ xs.size → ZAt z TI TO i1 i2 l1 l2 xs ys i s.heap → N ≤ s.heap.objs.size →
      s.heap.get? S = some { cls := .type "list", dict := none, data := .seq (Ts.map Value.ref).toArray c, slots := #[] } → Out N xs ys Ts i s.heap →
      (∀ h' Ts' c', (∀ b o, b ≠ S → b ≠ z → b ≠ TO → b ≠ i1 → b ≠ i2 → s.heap.get? b = some o → h'.get? b = some o) → h'.get? S = some { cls := .type "list", dict := none, data := .seq (Ts'.map Value.ref).toArray c', slots := #[] } → Out N xs ys Ts' xs.size h' → R (.ok (.ret res)) { s with heap := h' }) →
      codeAny (model prog w) A (.builtin "list.extend.loop" ⟨[.ref S, .ref z, res], []⟩) R s := by
  intro k
  simp only [List.mem_cons, List.not_mem_nil, or_false, not_or] at hSn
  obtain ⟨nz, nTI, nTO, n1, n2, nl1, nl2⟩ := hSn
  induction k with
  | zero =>
    intro i s Ts c hk hi Z hsz hSo hout hR
    have hin : i = xs.size := by omega
    subst hin
    obtain ⟨⟨f0, f1, hf, hz⟩, hTI, ⟨a, b, hTO⟩, h1, h2, hl1, hl2⟩ := Z
    refine codeAny_builtin F.entry_extend_loop ?_
    rw [Around.under_plainId F.plain_extend_loop _]
    show wpAny _ A.in1 (pyNext (.ref z) >>= _) _ _ s
    refine wpAny_bind (pyNext_end hh D hf hz hTI hTO h1 h2 hl1 hl2 (Array.getElem?_eq_none (Nat.le_refl _)) (Array.getElem?_eq_none (by omega)) fun h' hk' => ?_)
    refine wpAny_pure (hR h' Ts c (fun b o _ b1 b2 b3 b4 q => hk' b o b1 b2 b3 b4 q) (hk' _ _ nz nTO n1 n2 hSo) ⟨hout.1, hout.2.1, fun j T hj => ?_⟩)
    obtain ⟨g1, x, y, g2, g3, g4⟩ := hout.2.2 j T hj
    have a1 := hN z (by simp)
    have a2 := hN TO (by simp)
    have a3 := hN i1 (by simp)
    have a4 := hN i2 (by simp)
    exact ⟨g1, x, y, g2, g3, hk' _ _ (Nat.ne_of_gt (Nat.lt_of_lt_of_le a1 g1)) (Nat.ne_of_gt (Nat.lt_of_lt_of_le a2 g1)) (Nat.ne_of_gt (Nat.lt_of_lt_of_le a3 g1)) (Nat.ne_of_gt (Nat.lt_of_lt_of_le a4 g1)) g4⟩
  | succ k ih =>
    intro i s Ts c hk hi Z hsz hSo hout hR
    have hlt : i < xs.size := by omega
    have hlt2 : i < ys.size := by omega
    obtain ⟨⟨f0, f1, hf, hz⟩, hTI, ⟨a, b, hTO⟩, h1, h2, hl1, hl2⟩ := Z
    refine codeAny_builtin F.entry_extend_loop ?_
    rw [Around.under_plainId F.plain_extend_loop _]
    show wpAny _ A.in1 (pyNext (.ref z) >>= _) _ _ s
    refine wpAny_bind (pyNext_item D hf hz hTI hTO h1 h2 hl1 hl2 (Array.getElem?_eq_getElem hlt) (Array.getElem?_eq_getElem hlt2) fun h' T f z' to' j1 j2 pr sz kp => ?_)
    have hS' := kp _ _ nz nTO n1 n2 hSo
    show wpAny _ A.in1 (updateSeq S (·.push (.ref s.heap.objs.size)) >>= _) _ _ _
    refine wpAny_bind ?_
    have big : ∀ {T : Addr}, N ≤ T → T ≠ S ∧ T ≠ z ∧ T ≠ TO ∧ T ≠ i1 ∧ T ≠ i2 := fun {T} g1 => by
      have gt : ∀ {c : Addr}, c < N → T ≠ c := fun {c} q => Nat.ne_of_gt (Nat.lt_of_lt_of_le q g1)
      exact ⟨gt hS, gt (hN z (by simp)), gt (hN TO (by simp)), gt (hN i1 (by simp)), gt (hN i2 (by simp))⟩
    have upS : ∀ b o, b ≠ S → h'.get? b = some o → (h'.update S (Obj.mapSeq (·.push (.ref s.heap.objs.size)))).get? b = some o := fun b o hb e => (Heap.get?_update_other _ _ (Ne.symm hb)).trans e
    refine wpAny_updateSeq hS' rfl (wpAny_pure ⟨plainId_quiet F.plain_extend_loop _, ih (i + 1) _ (Ts ++ [s.heap.objs.size]) (c + 1) (by omega) hlt ?_ ?_ ?_ ?_ fun h'' Ts' c' hk'' hS'' hout' => ?_⟩) ?_ ?_
    · refine ⟨⟨_, f, .inr ⟨_, rfl⟩, upS _ _ (Ne.symm nz) z'⟩, upS _ _ (Ne.symm nTI) (kp _ _ D.TIz D.TITO D.TIi1 D.TIi2 hTI), ?_, j1.at fun o q => upS _ o (Ne.symm n1) q, j2.at fun o q => upS _ o (Ne.symm n2) q,
        hl1.at fun o q => upS _ o (Ne.symm nl1) (kp _ o D.l1z D.l1TO D.l1i1 D.l1i2 q), hl2.at fun o q => upS _ o (Ne.symm nl2) (kp _ o D.l2z D.l2TO D.l2i1 D.l2i2 q)⟩
      obtain ⟨a', b', q⟩ := to'
      exact ⟨a', b', upS _ _ (Ne.symm nTO) q⟩
    · show N ≤ (h'.update S _).objs.size
      rw [Heap.size_update, sz]
      omega
    · refine (Heap.get?_update_self _ hS' rfl).trans ?_
      rw [Obj.mapSeq_push_plain]
      simp
    · obtain ⟨o1, o2, o3⟩ := hout
      refine ⟨by rw [List.length_append, o1]; rfl, ?_, fun j T' hj => ?_⟩
      · rw [List.nodup_append]
        refine ⟨o2, by simp, fun u hu v hv e => ?_⟩
        have : v = s.heap.objs.size := by simpa using hv
        obtain ⟨j, hj⟩ := List.getElem?_of_mem hu
        obtain ⟨_, x, y, _, _, g4⟩ := o3 j u hj
        have q1 := Heap.lt_size g4
        rw [e, this] at q1
        exact Nat.lt_irrefl _ q1
      · by_cases hj2 : j < Ts.length
        · rw [List.getElem?_append_left hj2] at hj
          obtain ⟨g1, x, y, g2, g3, g4⟩ := o3 j T' hj
          obtain ⟨b0, b1, b2, b3, b4⟩ := big g1
          exact ⟨g1, x, y, g2, g3, upS _ _ b0 (kp _ _ b1 b2 b3 b4 g4)⟩
        · rw [List.getElem?_append_right (by omega)] at hj
          have h0 : j - Ts.length = 0 := by
            have := (List.getElem?_eq_some_iff.mp hj).1
            simp at this
            omega
          rw [h0] at hj
          have e5 : s.heap.objs.size = T' := Option.some.inj hj
          have e6 : j = i := by omega
          subst e5 e6
          exact ⟨hsz, _, _, Array.getElem?_eq_getElem hlt, Array.getElem?_eq_getElem hlt2, upS _ _ (big hsz).1 pr⟩
    · exact hR h'' Ts' c' (fun b o b0 b1 b2 b3 b4 q => hk'' b o b0 b1 b2 b3 b4 (upS _ _ b0 (kp _ _ b1 b2 b3 b4 q))) hS'' hout'
    · have := hout.1
      simp only [List.size_toArray, List.length_map]
      omega
    · have := hout.1
      simp only [Array.size_push, List.size_toArray, List.length_map]
      omega
theorem zip_no_len : typeLookup (.type "zip") "__len__" = pure none := by rw [typeLookup_type, builtinLookup_eq_fast]; kernel_rfl
theorem zip_no_hint : typeLookup (.type "zip") "__length_hint__" = pure none := by rw [typeLookup_type, builtinLookup_eq_fast]; kernel_rfl
theorem call_listZ {s : Shared} {z TI TO i1 i2 l1 l2 : Addr} {xs ys : Array Value} {Q : Value → Shared → Prop} (hh : A.handled = none) (D : ZipApart z TI TO i1 i2 l1 l2) (hl : xs.size = ys.size) (hn : xs.size ≤ sizeLine)
    (Z : ZAt z TI TO i1 i2 l1 l2 xs ys 0 s.heap)
    (hQ : ∀ h' Ts c, (∀ b o, b ≠ z → b ≠ TO → b ≠ i1 → b ≠ i2 → s.heap.get? b = some o → h'.get? b = some o) → h'.get? s.heap.objs.size = some { cls := .type "list", dict := none, data := .seq (Ts.map Value.ref).toArray c, slots := #[] } → Out (s.heap.objs.size + 1) xs ys Ts xs.size h' → Q (.ref s.heap.objs.size) { s with heap := h' }) :
    wpAny (model prog w) A (call (.type "list") [.ref z]) Q E s := by
  have lt : ∀ c ∈ [z, TI, TO, i1, i2, l1, l2], c < s.heap.objs.size := fun c hc => by
    obtain ⟨⟨f0, f1, hf, hz⟩, hTI, ⟨a, b, hTO⟩, ⟨o1, h1, _⟩, ⟨o2, h2, _⟩, ⟨o3, h3, _⟩, ⟨o4, h4, _⟩⟩ := Z
    simp only [List.mem_cons, List.not_mem_nil, or_false] at hc
    rcases hc with rfl | rfl | rfl | rfl | rfl | rfl | rfl
    · exact Heap.lt_size hz
    · exact Heap.lt_size hTI
    · exact Heap.lt_size hTO
    · exact Heap.lt_size h1
    · exact Heap.lt_size h2
    · exact Heap.lt_size h3
    · exact Heap.lt_size h4
  have hSf : s.heap.objs.size ∉ [z, TI, TO, i1, i2, l1, l2] := fun hm => Nat.lt_irrefl _ (lt _ hm)
  refine callType_codes (Q₁ := fun obj s₁ => obj = .ref s.heap.objs.size ∧ s₁ = { s with heap := s.heap.push { cls := .type "list", data := .seq #[] } }) F.called_list (F.typeCall_list_1 _) F.entry_list_init
    (code_list_new _ ⟨rfl, rfl⟩) fun obj s₁ h₁ => ?_
  obtain ⟨rfl, rfl⟩ := h₁
  have hS : (s.heap.push { cls := .type "list", data := .seq #[] }).get? s.heap.objs.size = some { cls := .type "list", data := .seq #[] } := Heap.get?_push_size _ rfl
  refine ⟨⟨_, hS, rfl⟩, F.args_list_init_2 _ _, ?_⟩
  show wpAny _ A.in1.in1 (do let old ← Builtin.List.listItems (.ref s.heap.objs.size); Builtin.List.listUpdate (.ref s.heap.objs.size) (fun _ => #[]); letGo old.toList.reverse; Builtin.List.listExtendWith (.ref s.heap.objs.size) (.ref z) .none) _ _ _
  refine wpAny_bind ?_
  unfold Builtin.List.listItems
  refine wpAny_bind (wpAny_seqItems hS rfl (wpAny_pure ?_))
  show wpAny _ A.in1.in1 (updateSeq s.heap.objs.size (fun _ => #[]) >>= fun _ => letGo (#[] : Array Value).toList.reverse >>= fun _ => Builtin.List.listExtendWith (.ref s.heap.objs.size) (.ref z) .none) _ _ _
  refine wpAny_bind (wpAny_updateSeq hS rfl ?_)
  have hS2 := Heap.get?_update_self (Obj.mapSeq (fun _ => (#[] : Array Value))) hS rfl
  refine wpAny_bind (wpAny_letGo ?_)
  unfold Builtin.List.listExtendWith
  have up : ∀ (h : Heap) (f : Obj → Obj), (∀ b o, s.heap.get? b = some o → h.get? b = some o) → ∀ b o, s.heap.get? b = some o → (h.update s.heap.objs.size f).get? b = some o := fun h f q b o e =>
    (Heap.get?_update_other _ _ (Ne.symm (Nat.ne_of_lt (Heap.lt_size e)))).trans (q b o e)
  have k1 : ∀ b o, s.heap.get? b = some o → (s.heap.push { cls := .type "list", data := .seq #[] }).get? b = some o := fun b o e => Heap.get?_push_of_some _ e
  have k2 := up _ (Obj.mapSeq (fun _ => (#[] : Array Value))) k1
  obtain ⟨f0, f1, hf, hz0⟩ := Z.zip
  have ty : ∀ {h : Heap}, (∀ b o, s.heap.get? b = some o → h.get? b = some o) → ({ s with heap := h } : Shared).TypeIs (.ref z) "zip" := fun {h} q => ⟨_, q _ _ hz0, rfl⟩
  refine wpAny_bind (wpAny_typeOf (ty k2) ?_)
  have hSz : s.heap.objs.size ≠ z := fun e => hSf (by rw [e]; simp)
  have h1 : Builtin.List.listSameRef (.ref s.heap.objs.size) (.ref z) = false := by simp [Builtin.List.listSameRef, hSz]
  have h2 : (Value.type "zip" == Value.type "list") = false := by decide
  have h3 : (Value.type "zip" == Value.type "tuple") = false := by decide
  simp only [h1, h2, h3, Bool.or_false, Bool.false_eq_true, if_false]
  refine wpAny_bind (pyIter_zipS (s := { s with heap := _ }) (k2 _ _ hz0) ?_)
  refine wpAny_bind (wpAny_holding ?_)
  unfold Builtin.List.listLengthHint
  refine wpAny_bind (wpAny_specialOf (ty k2) zip_no_len ?_)
  show wpAny _ A.in1.in1 (specialOf (Value.ref z) (Str.ofString "__length_hint__") >>= _) _ _ _
  refine wpAny_bind (wpAny_specialOf (ty k2) zip_no_hint ?_)
  refine wpAny_pure ?_
  show wpAny _ A.in1.in1 (rule "list.extend.makes-room" >>= fun _ => Builtin.List.listTouch (.ref s.heap.objs.size) >>= fun _ =>
    again (.builtin "list.extend.loop" ⟨[.ref s.heap.objs.size, .ref z, .none], []⟩)) _ _ _
  refine wpAny_bind (wpAny_rule ?_)
  refine wpAny_bind ?_
  show wpAny _ A.in1.in1 (updateSeq s.heap.objs.size (·.push .none) >>= fun _ => updateSeq s.heap.objs.size (·.pop)) _ _ _
  refine wpAny_bind (wpAny_updateSeq hS2 rfl ?_)
  have hS3 := Heap.get?_update_self (Obj.mapSeq (·.push Value.none)) hS2 rfl
  refine wpAny_updateSeq (hz := by seq_fits) hS3 rfl ?_
  have hS4 := Heap.get?_update_self (Obj.mapSeq (·.pop)) hS3 rfl
  have k4 := up _ (Obj.mapSeq (·.pop)) (up _ (Obj.mapSeq (·.push Value.none)) k2)
  have hsz : ((((s.heap.push { cls := .type "list", data := .seq #[] }).update s.heap.objs.size (Obj.mapSeq (fun _ => (#[] : Array Value)))).update s.heap.objs.size (Obj.mapSeq (·.push Value.none))).update s.heap.objs.size (Obj.mapSeq (·.pop))).objs.size = s.heap.objs.size + 1 := by
    rw [Heap.size_update, Heap.size_update, Heap.size_update, Heap.size_push]
  refine wpAny_pure ⟨plainId_quiet F.plain_extend_loop _, ?_⟩
  have e0 : ∃ c4, Obj.mapSeq (·.pop) (Obj.mapSeq (·.push Value.none) (Obj.mapSeq (fun _ => (#[] : Array Value)) { cls := .type "list", data := .seq #[] })) = { cls := .type "list", dict := none, data := .seq (([] : List Addr).map Value.ref).toArray c4, slots := #[] } := ⟨_, by simp [Obj.mapSeq]; rfl⟩
  obtain ⟨c4, e4⟩ := e0
  replace hS4 := hS4.trans (congrArg some e4)
  have hA : A.in1.handled = none := hh
  have hz1 : xs.size - 0 = xs.size := rfl
  have out0 : ∀ h, Out (s.heap.objs.size + 1) xs ys [] 0 h := fun h => ⟨rfl, List.nodup_nil, fun j T hj => by simp at hj⟩
  have Z4 := Z.keep fun c _ o q => k4 c o q
  have hle := Nat.le_of_eq hsz.symm
  revert hS4 k4 hle Z4
  generalize (((s.heap.push { cls := .type "list", data := .seq #[] }).update s.heap.objs.size (Obj.mapSeq (fun _ => (#[] : Array Value)))).update s.heap.objs.size (Obj.mapSeq (·.push Value.none))).update s.heap.objs.size (Obj.mapSeq (·.pop)) = h4
  intro k4 hS4 Z4 hle
  refine ext_loop (N := s.heap.objs.size + 1) hA D hl hn (Nat.lt_succ_self _) hSf (fun c hc => Nat.lt_succ_of_lt (lt c hc)) xs.size 0 { s with heap := h4 } [] c4 hz1 (Nat.zero_le _) Z4 hle hS4 (out0 _) fun h' Ts' c' hk hS' hout => ?_
  exact ⟨rfl, hQ h' Ts' c' (fun b o b1 b2 b3 b4 q => hk b o (Nat.ne_of_lt (Heap.lt_size q)) b1 b2 b3 b4 (k4 _ _ q)) hS' hout⟩
end
end Zs
end Tar

/-! TaZ3 -/
set_option Elab.async false
set_option linter.all false
set_option maxRecDepth 100000
set_option maxHeartbeats 1000000
/-! rules: list(zip(a, b, strict=True)); a[lo::step] of a list -/
namespace Tar
open PySem PySem.Spec PyProof.Rows L2 Evl
theorem callWith_typeKw {M : Model} {A : Around} {E : Value → Shared → Prop} {s : Shared} {pos : Pos} {T : String} {first : List Value} {args : List (Bool × Sem Value)} {keywords : List (Option Str × Sem Value)} {Q : Value → Shared → Prop}
    (hplain : args.any (·.1) = false) (hkw : keywords.any (·.1.isNone) = false)
    (h : wpAny M A (evalArgs (.type T) true args keywords) (fun a s₁ => wpAny M A (call (.type T) (first ++ a.pos) a.kw) Q E s₁) E s) :
    wpAny M A (callWith pos (.type T) first args keywords) Q E s := by
  unfold callWith
  refine wpAny_bind (wpAny_holding (wpAny_mono h (fun a s₁ h₁ => wpAny_bind (wpAny_standAt ?_)) fun _ _ x => x))
  simp only [hplain, hkw, Bool.or_false]
  refine wpAny_bind (wpAny_pure ?_)
  exact wpAny_bind (wpAny_mono h₁ (fun r s₂ hr => wpAny_bind (wpAny_holding (wpAny_point (wpAny_pure hr)))) fun _ _ x => x)
/-- many new objects laid at once -/
def layG (N : Nat) (H : Hp) (G : Hp) : Hp := fun a => if a < N then H a else G a
theorem layG_lo {N : Nat} {H G : Hp} {a : Addr} (h : a < N) : layG N H G a = H a := if_pos h
theorem layG_hi {N : Nat} {H G : Hp} {a : Addr} (h : N ≤ a) : layG N H G a = G a := if_neg (Nat.not_lt.mpr h)
theorem layG_ex {P : Program} {w : World} {H G : Hp} {h : Heap} (ok : HOk P w H h) : Ex H (layG h.objs.size H G) := fun a o e => by
  rw [layG_lo (ok.lt e)]
  exact e
theorem Inv.layG {X : Cx} {pins : List (Addr × Obj)} {σ : L2.St} {H G : Hp} {s : Shared} {h' : Heap} {t' : Nat} (I : Inv X pins σ H s) (k : ∀ b u, s.heap.get? b = some u → h'.get? b = some u)
    (new : ∀ a o, s.heap.objs.size ≤ a → G a = some o → ObjOk X.prog X.w (Tar.layG s.heap.objs.size H G) h' a o) : Inv X pins σ (Tar.layG s.heap.objs.size H G) { s with heap := h', toks := t' } := by
  have ex := layG_ex (G := G) I.hok
  refine I.un ⟨fun b o e _ _ _ => k b o e, fun b o e _ _ _ => ⟨o.slots, k b o e⟩, fun b o e n _ => ?_, fun b o e _ => ⟨o, k b o e⟩, fun b xs e => ex _ _ e, fun b o u e => ex _ _ e, fun b ps e => ⟨#[], by rw [ex _ _ e]; simp⟩⟩ fun b u e => ?_
  · rw [layG_lo (Heap.lt_size e)]
    exact n
  · by_cases hb : b < s.heap.objs.size
    · rw [layG_lo hb] at e
      exact (I.hok b u e).stay (fun c v _ q => k c v q) (fun c q => ex _ _ q) fun c xs q => ex _ _ q
    · have hb' := Nat.not_lt.mp hb
      have e2 := e
      rw [layG_hi hb'] at e2
      exact new b u hb' e2
theorem nd_ix {N : List Addr} (hN : N.Nodup) {i j : Nat} {x : Addr} (a : N[i]? = some x) (b : N[j]? = some x) : i = j := by
  obtain ⟨h1, e1⟩ := List.getElem?_eq_some_iff.mp a
  obtain ⟨h2, e2⟩ := List.getElem?_eq_some_iff.mp b
  exact (List.getElem_inj hN).mp (e1.trans e2.symm)
theorem refs_vals : ∀ Ts : List Addr, Vals (Ts.map V.ref) (Ts.map Value.ref)
  | [] => .nil
  | t :: Ts => .cons rfl (refs_vals Ts)
def tLZ (K : PySem.W.Frag) (ta : TA) : TE := fun σ H Q => ta σ H fun vs H1 => ∃ (a b : Addr) (xs ys : List V), vs = [.ref a, .ref b] ∧ SqL K H1 a xs ∧ SqL K H1 b ys ∧ xs.length = ys.length ∧ ∀ p H2, H1 p = none → Ex H1 H2 → (∃ as : List Addr, H2 p = some (.lst (as.map V.ref)) ∧ as.length = xs.length ∧ ∀ (i : Nat) (q : Addr) (x y : V), as[i]? = some q → xs[i]? = some x → ys[i]? = some y → H2 q = some (.tup [x, y])) → Q (.ref p) H2
section
variable {X : Cx}
open Classical in
theorem pe_lzip {e e2 : Expr} {ta : TA} {p p2 p3 pos kp cp : Pos} {j : Nat} (hc : X.calm = true) (hg : Gl X "list") (hm : X.mg "list" = none) (hg2 : Gl X "zip") (hm2 : X.mg "zip" = none) (ha : PA X [e, e2] ta)
    (he : starEach [e, e2] X.env = (false, eval e X.env) :: starEach [e2] X.env := by rfl) (hpl : (backTo p3 (starEach [e, e2] X.env)).any (·.1) = false := by rfl)
    (hall : (backToKw p3 (keywordEach [⟨some "strict", .Constant (.bool true) j cp, kp⟩] X.env)).all (·.1.isSome) = true := by rfl) (hkw : (backToKw p3 (keywordEach [⟨some "strict", .Constant (.bool true) j cp, kp⟩] X.env)).any (·.1.isNone) = false := by rfl)
    (hks : (backToKw p3 (keywordEach [⟨some "strict", .Constant (.bool true) j cp, kp⟩] X.env)).filterMap (·.1) = ([("strict" : Str)] : List Str) := by rfl)
    (hs : starEach [.Call (.Name "zip" p2) [e, e2] [⟨some "strict", .Constant (.bool true) j cp, kp⟩] p3] X.env = (false, eval (.Call (.Name "zip" p2) [e, e2] [⟨some "strict", .Constant (.bool true) j cp, kp⟩] p3) X.env) :: starEach [] X.env := by rfl) :
    PE X (.Call (.Name "list" p) [.Call (.Name "zip" p2) [e, e2] [⟨some "strict", .Constant (.bool true) j cp, kp⟩] p3] [] pos) (tLZ X.K ta) := by
  refine ⟨fun pins s σ H Q I h => ?_⟩
  refine Call_ (ld_blt I hg hm PyProof.Rows.boot_list (PyProof.Rows.callWith_type1 ?_ hs rfl))
  rw [hs]
  refine Calls.spliced_cons ?_
  refine wpAny_Call_Name_kw (ld_blt I hg2 hm2 PyProof.Rows.boot_zip ?_)
  refine callWith_typeKw hpl hkw (evalArgs_kw2 hall (thn (ha.run p3 pins s σ H _ I h) fun us s1 ⟨vs, H1, I1, r1, q1⟩ => ?_) he)
  refine PyProof.Rows.kws_cons (wpAny_Constant_bool (PyProof.Rows.kws_nil ?_))
  rw [hks]
  obtain ⟨a, b, xs, ys, ex, hqx, hqy, hlen, q⟩ := q1
  subst ex
  obtain ⟨u1, u2, rfl, r, r'⟩ := vals2 r1
  cases r
  cases r'
  obtain ⟨its, rv, p1, z1⟩ := I1.list hqx
  obtain ⟨its2, rv2, p2', z2⟩ := I1.list hqy
  have l1 := rv.length
  have l2 := rv2.length
  refine Zs.call_zipS p1.isList p2'.isList fun h1 hz hTI hTO h1' h2' hsz hk => ?_
  have D := PySem.W.ktu_apart s1.heap.objs.size a b p1.lt p2'.lt
  refine Calls.spliced_nil ?_
  refine Zs.call_listZ (s := { s1 with heap := h1 }) (xs := its.toArray) (ys := its2.toArray) (I1.ok.hd hc) D (by simp; omega) (by simp; omega) ⟨⟨_, _, .inl rfl, hz⟩, hTI, ⟨_, _, hTO⟩, h1', h2', p1.isList.at fun o e => hk _ _ e, p2'.isList.at fun o e => hk _ _ e⟩ fun h' Ts c hk' hS hout => ?_
  obtain ⟨o1, o2, o3⟩ := hout
  have o1' : Ts.length = xs.length := by rw [o1]; simp; omega
  have keep : ∀ b u, s1.heap.get? b = some u → h'.get? b = some u := fun b u e => by
    have hlt := Heap.lt_size e
    exact hk' b u (Nat.ne_of_lt (Nat.lt_of_lt_of_le hlt (Nat.le_add_right _ 4))) (Nat.ne_of_lt (Nat.lt_of_lt_of_le hlt (Nat.le_add_right _ 3))) (Nat.ne_of_lt hlt) (Nat.ne_of_lt (Nat.lt_of_lt_of_le hlt (Nat.le_add_right _ 1))) (hk _ _ e)
  have hSh : s1.heap.objs.size ≤ h1.objs.size := by rw [hsz]; exact Nat.le_add_right _ _
  let G : Hp := fun a => if a = h1.objs.size then some (.lst (Ts.map V.ref)) else if hh : ∃ i : Nat, Ts[i]? = some a then some (.tup [xs.getD hh.choose .non, ys.getD hh.choose .non]) else none
  have G0 : G h1.objs.size = some (.lst (Ts.map V.ref)) := if_pos rfl
  have hT : ∀ (i : Nat) (q : Addr), Ts[i]? = some q → h1.objs.size < q := fun i q hi => (o3 i q hi).1
  have G1 : ∀ (i : Nat) (q : Addr), Ts[i]? = some q → G q = some (.tup [xs.getD i .non, ys.getD i .non]) := fun i q hi => by
    have hex : ∃ i : Nat, Ts[i]? = some q := ⟨i, hi⟩
    have e1 : hex.choose = i := nd_ix o2 hex.choose_spec hi
    show (if q = h1.objs.size then _ else if hh : ∃ i : Nat, Ts[i]? = some q then _ else _) = _
    rw [if_neg (Nat.ne_of_gt (hT i q hi)), dif_pos hex, e1]
  have I2 : Inv X pins σ (Tar.layG s1.heap.objs.size H1 G) { s1 with heap := h' } := Inv.layG (t' := s1.toks) I1 keep fun a o ha hG => by
    by_cases e0 : a = h1.objs.size
    · subst e0
      rw [G0] at hG
      cases hG
      exact ⟨by rw [List.length_map]; omega, Ts.map Value.ref, c, refs_vals Ts, hS⟩
    · have hG2 : (if hh : ∃ i : Nat, Ts[i]? = some a then some (HO.tup [xs.getD hh.choose .non, ys.getD hh.choose .non]) else none) = some o := by
        have : G a = (if hh : ∃ i : Nat, Ts[i]? = some a then some (HO.tup [xs.getD hh.choose .non, ys.getD hh.choose .non]) else none) := if_neg e0
        rw [← this]
        exact hG
      by_cases hex : ∃ i : Nat, Ts[i]? = some a
      · rw [dif_pos hex] at hG2
        cases hG2
        have hi := hex.choose_spec
        obtain ⟨_, u, v, g2, g3, g4⟩ := o3 _ _ hi
        have hix : hex.choose < xs.length := by rw [← o1']; exact (List.getElem?_eq_some_iff.mp hi).1
        have hx : xs[hex.choose]? = some (xs.getD hex.choose .non) := by rw [List.getD_eq_getElem?_getD, List.getElem?_eq_getElem hix]; rfl
        have hy : ys[hex.choose]? = some (ys.getD hex.choose .non) := by rw [List.getD_eq_getElem?_getD, List.getElem?_eq_getElem (by omega)]; rfl
        obtain ⟨u', hu, ru⟩ := rv.get hx
        obtain ⟨v', hv, rv'⟩ := rv2.get hy
        have eu : u' = u := by
          have g2' : its[hex.choose]? = some u := by simpa using g2
          rw [hu] at g2'
          exact Option.some.inj g2'
        have ev : v' = v := by
          have g3' : its2[hex.choose]? = some v := by simpa using g3
          rw [hv] at g3'
          exact Option.some.inj g3'
        subst eu ev
        exact ⟨by show 2 ≤ sizeLine; decide, [u', v'], .cons ru (.cons rv' .nil), ⟨_, g4, rfl, _, rfl⟩⟩
      · rw [dif_neg hex] at hG2
        cases hG2
  refine ⟨.ref h1.objs.size, _, I2, rfl, q _ _ (I1.hok.fresh hSh) (layG_ex I1.hok) ⟨Ts, ?_, o1', fun i t x y hi hx hy => ?_⟩⟩
  · rw [layG_hi hSh]
    exact G0
  · rw [layG_hi (Nat.le_trans hSh (Nat.le_of_lt (hT i t hi))), G1 i t hi]
    rw [List.getD_eq_getElem?_getD, List.getD_eq_getElem?_getD, hx, hy]
    rfl
/-! ### a[lo::step] -/
def pickV (xs : List V) (i k : Int) : List V := (sliceRange (sliceBounds (some i) none (some k) xs.length).1 (sliceBounds (some i) none (some k) xs.length).2.1 (sliceBounds (some i) none (some k) xs.length).2.2).filterMap (xs[·]?)
theorem vals_pick {xs : List V} {us : List Value} (h : Vals xs us) : ∀ l : List Nat, Vals (l.filterMap (xs[·]?)) (l.filterMap (us[·]?))
  | [] => .nil
  | i :: l => by
    cases hx : xs[i]? with
    | none =>
      have : us[i]? = none := by
        rw [List.getElem?_eq_none_iff] at hx ⊢
        rw [← h.length]
        exact hx
      rw [List.filterMap_cons_none hx, List.filterMap_cons_none this]
      exact vals_pick h l
    | some x =>
      obtain ⟨u, hu, r⟩ := h.get hx
      rw [List.filterMap_cons_some hx, List.filterMap_cons_some hu]
      exact .cons r (vals_pick h l)
def tSlS (K : PySem.W.Frag) (te tl ts : TE) : TE := fun σ H Q => te σ H fun x H1 => tl σ H1 fun l H2 => ts σ H2 fun st H3 => ∃ (a : Addr) (xs : List V) (i k : Int), x = .ref a ∧ SqL K H3 a xs ∧ l = .int i ∧ st = .int k ∧ k ≠ 0 ∧ ∀ p, H3 p = none → Q (.ref p) (upd H3 p (.lst (pickV xs i k)))
theorem pe_sliceS {e lo st : Expr} {te tl ts : TE} {p2 pos : Pos} (he : PE X e te) (hl : PE X lo tl) (hs : PE X st ts) : PE X (.Subscript e (.Slice (some lo) none (some st) p2) pos) (tSlS X.K te tl ts) := by
  refine ⟨fun pins s σ H Q I h => ?_⟩
  refine Subscript_ (thn (he.run pins s σ H _ I h) fun v s1 ⟨x, H1, I1, r1, q1⟩ => ?_)
  refine wpAny_Slice ?_
  rw [evalPart_some, evalPart_none, evalPart_some]
  refine thn (hl.run pins s1 σ H1 _ I1 q1) fun vl s2 ⟨l, H2, I2, pl, q2⟩ => wpAny_pure ?_
  refine thn (hs.run pins s2 σ H2 _ I2 q2) fun vs s3 ⟨k', H3, I3, ps, q3⟩ => ?_
  obtain ⟨a, xs, i, k, rfl, hx, rfl, rfl, hk, q⟩ := q3
  cases r1
  obtain ⟨t, rfl⟩ := pl
  obtain ⟨u, rfl⟩ := ps
  have I4 : Inv X pins σ H3 { s3 with heap := s3.heap.push { cls := .type "slice", data := .fields #[.int i t, .none, .int k u] } } := I3.kept (t' := s3.toks) fun b ob q => Heap.get?_push_of_some _ q
  obtain ⟨its, r, ht, hz⟩ := I4.list hx
  have hlen := r.length
  show wpAny (model X.prog X.w) X.A (subscriptTail e (.Slice (some lo) none (some st) p2) (.ref a) (.ref s3.heap.objs.size)) (EP X pins σ Q) X.xe { s3 with heap := s3.heap.push { cls := .type "slice", data := .fields #[.int i t, .none, .int k u] } }
  refine tail_any (ops := [.ref a, .ref s3.heap.objs.size]) ht.isList.typeIs slot_list_getitem.lookup ?_ (by with_unfolding_all rfl)
  refine wpAny_getItem_list_slice ht.isList (Heap.IsSliceOf.new ..) (.int i t) .none (.int k u) (by simpa using hk) ?_ (by rw [List.size_toArray] <;> omega)
  have epk : slicePick its.toArray (some i) none (some k) = ((sliceRange (sliceBounds (some i) none (some k) xs.length).1 (sliceBounds (some i) none (some k) xs.length).2.1 (sliceBounds (some i) none (some k) xs.length).2.2).filterMap (its[·]?)).toArray := by
    unfold slicePick
    rw [List.size_toArray, ← hlen]
    simp
  rw [epk]
  have I5 := I4
  refine ⟨.ref (s3.heap.push { cls := .type "slice", data := .fields #[.int i t, .none, .int k u] }).objs.size, _, I5.laid (t' := s3.toks) (o := .lst (pickV xs i k)) (fun b ob q => Heap.get?_push_of_some _ q) (Nat.le_refl _) ?_, rfl, q _ (I5.hok.fresh (Nat.le_refl _))⟩
  refine ⟨?_, _, 0, vals_pick r _, Heap.get?_push_size _ rfl⟩
  have h1 := slicePick_size_le its.toArray (some i) none (some k)
  rw [epk] at h1
  simp only [List.size_toArray] at h1
  have h2 := (vals_pick r (sliceRange (sliceBounds (some i) none (some k) xs.length).1 (sliceBounds (some i) none (some k) xs.length).2.1 (sliceBounds (some i) none (some k) xs.length).2.2)).length
  show (List.filterMap _ _).length ≤ _
  omega
end
end Tar

/-! TaP13 -/
set_option Elab.async false
set_option linter.all false
set_option maxRecDepth 100000
set_option maxHeartbeats 4000000
/-! defs, 13: whole_numbers, spans_of -/
namespace Tar
open PySem PySem.Spec PyProof.Rows L2 Evl
def repl (b : List UInt8) : List UInt8 := (Rep.repA b.toArray ([10] : List UInt8).toArray ([32] : List UInt8).toArray).toList
def isNumT (p : List Nat) : Bool := Txt.isdigit (SX.S p) && decide (p.length < 6)
def partsOf (t : List Nat) : List (List Nat) := TL.spl [32] 0 [] t
def wholeNumbers (b : List UInt8) : Option (List Nat) := match textOf (repl b) with
  | none => none
  | some t => if t = [] then none else if (partsOf t).getLastD [] = [] ∧ (partsOf t).dropLast.all isNumT = true then some ((partsOf t).dropLast.map NumText.digitsVal) else none
theorem spl_ne (S : List Nat) : ∀ (l acc : List Nat) (k : Nat), TL.spl S k acc l ≠ []
  | [], acc, k => by rw [TL.spl_nil]; simp
  | c :: r, acc, 0 => by
    show (if TL.pre S (c :: r) = true then acc :: TL.spl S (S.length - 1) [] r else TL.spl S 0 (acc ++ [c]) r) ≠ []
    split
    · simp
    · exact spl_ne S r _ 0
  | c :: r, acc, k + 1 => spl_ne S r acc k
theorem spl_in (S : List Nat) : ∀ (l acc : List Nat) (k : Nat), ∀ p ∈ TL.spl S k acc l, ∀ c ∈ p, c ∈ acc ∨ c ∈ l
  | [], acc, k => fun p hp c hc => by
    rw [TL.spl_nil] at hp
    rw [List.mem_singleton.mp hp] at hc
    exact .inl hc
  | d :: r, acc, 0 => fun p hp c hc => by
    have hp2 : p ∈ (if TL.pre S (d :: r) = true then acc :: TL.spl S (S.length - 1) [] r else TL.spl S 0 (acc ++ [d]) r) := hp
    split at hp2
    · rcases List.mem_cons.mp hp2 with e | e
      · rw [e] at hc
        exact .inl hc
      · rcases spl_in S r [] _ p e c hc with q | q
        · cases q
        · exact .inr (List.mem_cons_of_mem _ q)
    · rcases spl_in S r _ 0 p hp2 c hc with q | q
      · rcases List.mem_append.mp q with z | z
        · exact .inl z
        · rw [List.mem_singleton.mp z]
          exact .inr (List.mem_cons_self ..)
      · exact .inr (List.mem_cons_of_mem _ q)
  | d :: r, acc, k + 1 => fun p hp c hc => by
    rcases spl_in S r acc k p hp c hc with q | q
    · exact .inl q
    · exact .inr (List.mem_cons_of_mem _ q)
theorem spl_cnt (S : List Nat) : ∀ (l acc : List Nat) (k : Nat), (TL.spl S k acc l).length ≤ l.length + 1
  | [], acc, k => by rw [TL.spl_nil]; simp
  | c :: r, acc, 0 => by
    show (if TL.pre S (c :: r) = true then acc :: TL.spl S (S.length - 1) [] r else TL.spl S 0 (acc ++ [c]) r).length ≤ _
    split
    · have := spl_cnt S r [] (S.length - 1)
      simp only [List.length_cons]
      omega
    · have := spl_cnt S r (acc ++ [c]) 0
      simp only [List.length_cons]
      omega
  | c :: r, acc, k + 1 => by
    have := spl_cnt S r acc k
    show (TL.spl S k acc r).length ≤ _
    simp only [List.length_cons]
    omega
theorem spl_plen (S : List Nat) : ∀ (l acc : List Nat) (k : Nat), ∀ p ∈ TL.spl S k acc l, p.length ≤ acc.length + l.length
  | [], acc, k => fun p hp => by
    rw [TL.spl_nil] at hp
    rw [List.mem_singleton.mp hp]
    exact Nat.le_add_right _ _
  | d :: r, acc, 0 => fun p hp => by
    have hp2 : p ∈ (if TL.pre S (d :: r) = true then acc :: TL.spl S (S.length - 1) [] r else TL.spl S 0 (acc ++ [d]) r) := hp
    simp only [List.length_cons]
    split at hp2
    · rcases List.mem_cons.mp hp2 with e | e
      · rw [e]
        omega
      · have := spl_plen S r [] _ p e
        simp only [List.length_nil] at this
        omega
    · have := spl_plen S r _ 0 p hp2
      simp only [List.length_append, List.length_singleton] at this
      omega
  | d :: r, acc, k + 1 => fun p hp => by
    have := spl_plen S r acc k p hp
    simp only [List.length_cons]
    omega
theorem udig : ∀ c : Nat, c < 128 → Unicode.isDigit c = true → (decide (48 ≤ c) && decide (c ≤ 57)) = true := by decide +kernel
theorem isNumT_all {p : List Nat} (ha : ∀ c ∈ p, c < 128) (h : isNumT p = true) : p.all (fun c => decide (48 ≤ c) && decide (c ≤ 57)) = true ∧ p ≠ [] ∧ p.length < 6 := by
  unfold isNumT at h
  rw [Bool.and_eq_true, decide_eq_true_eq] at h
  obtain ⟨h1, h2⟩ := h
  unfold Txt.isdigit at h1
  rw [Bool.and_eq_true, decide_eq_true_eq, SX.S_len, ← Array.all_toList] at h1
  refine ⟨List.all_eq_true.mpr fun c hc => udig c (ha c hc) (List.all_eq_true.mp h1.2 c hc), fun e => ?_, h2⟩
  rw [e] at h1
  exact Nat.lt_irrefl _ h1.1
theorem digitsVal_lt : ∀ (n : Nat) (p : List Nat), p.length = n → p.all (fun c => decide (48 ≤ c) && decide (c ≤ 57)) = true → NumText.digitsVal p < 10 ^ n
  | 0, p, hl, _ => by
    have : p = [] := List.length_eq_zero_iff.mp hl
    subst this
    decide
  | n + 1, p, hl, h => by
    have hne : p ≠ [] := fun e => by rw [e] at hl; cases hl
    rw [← List.dropLast_concat_getLast hne, NumText.digitsVal_snoc]
    have h1 := digitsVal_lt n p.dropLast (by rw [List.length_dropLast]; omega) (List.all_eq_true.mpr fun c hc => List.all_eq_true.mp h c (List.dropLast_subset p hc))
    have h2 := List.all_eq_true.mp h _ (List.getLast_mem hne)
    rw [Bool.and_eq_true, decide_eq_true_eq, decide_eq_true_eq] at h2
    rw [Nat.pow_succ]
    omega
theorem textOf_lt {f : List UInt8} {t : List Nat} (h : textOf f = some t) : ∀ c ∈ t, c < 128 := by
  intro c hc
  unfold textOf at h
  split at h
  · rename_i hh
    cases h
    unfold toT at hc
    obtain ⟨d, hd, rfl⟩ := List.mem_map.mp hc
    have := List.all_eq_true.mp hh.2 d hd
    rw [Bool.and_eq_true, decide_eq_true_eq, decide_eq_true_eq] at this
    omega
  · cases h
theorem repl_len {b : List UInt8} (h : b.length ≤ 512) : (repl b).length ≤ 263682 := by
  have h1 : b.toArray.size ≤ 512 := by simpa using h
  have := Rep.rep_len (old := ([10] : List UInt8).toArray) (new := ([32] : List UInt8).toArray) h1 (by decide)
  unfold repl
  rw [Array.length_toList]
  omega
theorem wholeNumbers_lt {b : List UInt8} {ns : List Nat} (h : wholeNumbers b = some ns) : ∀ n ∈ ns, n < 100000 := by
  intro n hn
  unfold wholeNumbers at h
  cases ht : textOf (repl b) with
  | none =>
    rw [ht] at h
    cases h
  | some t =>
    rw [ht] at h
    dsimp only at h
    split at h
    · cases h
    · split at h
      · rename_i hh
        cases h
        obtain ⟨p, hp, rfl⟩ := List.mem_map.mp hn
        have h1 := isNumT_all (fun c hc => by
          rcases spl_in [32] t [] 0 p (List.dropLast_subset _ hp) c hc with q | q
          · cases q
          · exact textOf_lt ht c q) (List.all_eq_true.mp hh.2 p hp)
        have h2 := digitsVal_lt _ p rfl h1.1
        have h3 : 10 ^ p.length ≤ 10 ^ 5 := Nat.pow_le_pow_right (by decide) (by omega)
        omega
      · cases h
theorem wholeNumbers_len {b : List UInt8} {ns : List Nat} (hb : b.length ≤ 512) (h : wholeNumbers b = some ns) : ns.length ≤ 263683 := by
  have hr := repl_len hb
  unfold wholeNumbers at h
  cases ht : textOf (repl b) with
  | none =>
    rw [ht] at h
    cases h
  | some t =>
    rw [ht] at h
    dsimp only at h
    have h1 := textOf_len ht
    have h2 : (partsOf t).length ≤ t.length + 1 := spl_cnt [32] t [] 0
    split at h
    · cases h
    · split at h
      · cases h
        rw [List.length_map, List.length_dropLast]
        omega
      · cases h
def WnR (r : Option (List Nat)) : V → Hp → Prop := fun v H => match r with
  | none => v = .non
  | some ns => ∃ p, v = .ref p ∧ H p = some (.lst (iLst ns))
theorem wnR_sta (r : Option (List Nat)) : Sta (WnR r) := fun v H H' e h => by
  cases r with
  | none => exact h
  | some ns =>
    obtain ⟨p, h1, h2⟩ := h
    exact ⟨p, h1, e _ _ h2⟩
section
variable {P : Program} {w : World} {K : PySem.W.Frag} {mg : Str → Option Value} {base : Heap}
/-- xs[lo:hi] of a list: a new list -/
theorem el_slL {σ : L2.St} {H : Hp} {te : TE} {tl th : TO} {a : Addr} {xs : List V} {lo hi : Option Int} (h : Ev te σ H (.ref a)) (hx : SqL K H a xs) (h1 : EvO tl σ H lo) (h2 : EvO th σ H hi) : EvL (tSl (rSlX K) te tl th) σ H (cutV xs lo hi) := fun H1 e1 Q q =>
  h H1 e1 _ fun H2 e2 => h1 H2 (e1.trans e2) _ fun H3 e3 => h2 H3 ((e1.trans e2).trans e3) _ fun H4 e4 => .inr (.inr ⟨a, xs, rfl, ex_l (((e1.trans e2).trans e3).trans e4) hx, fun p hp => q p _ (fresh_back ((e2.trans e3).trans e4) hp) (((e2.trans e3).trans e4).trans (Ex.new hp)) upd_same⟩)
theorem cutV_dropLast (xs : List V) : cutV xs none (some (-1)) = xs.dropLast := by
  unfold cutV
  show (xs.drop 0).take ((if (-1 : Int) < 0 then ((-1 : Int) + (xs.length : Int)).toNat else min (-1 : Int).toNat xs.length) - 0) = _
  rw [if_pos (by decide), List.drop_zero, List.dropLast_eq_take]
  congr 1
  omega
theorem atI_lastD {xs : List V} (hne : xs ≠ []) (d : V) : atI xs (-1) = some (xs.getLastD d) := by
  have e := List.dropLast_concat_getLast hne
  have e2 : xs.getLastD d = xs.getLast hne := by
    rw [List.getLastD_eq_getLast?, List.getLast?_eq_some_getLast hne]
    rfl
  rw [e2]
  conv => lhs; rw [← e]
  exact atI_last _ _
theorem cr_isdig {σ : L2.St} {H : Hp} {te : TE} {l : List Nat} (h : Ev te σ H (.str (SX.S l))) : Ev (tBM0 K "str" (fun x xs H Q => ∃ a, x = .str a ∧ xs = [] ∧ True ∧ Q (.bl (Txt.isdigit a)) H) te) σ H (.bl (Txt.isdigit (SX.S l))) := fun H1 e Q q =>
  h H1 e _ fun H2 e2 => ⟨rfl, _, rfl, rfl, True.intro, q H2 e2⟩
def tParts (t : List Nat) : List V := (partsOf t).map fun p => V.str (SX.S p)
/-- t.split(" ") -/
theorem el_split {σ : L2.St} {H : Hp} {te : TE} {t : List Nat} (h : Ev te σ H (.str (SX.S t))) (hz : t.length ≤ 900000) : EvL (tM1 (fun x xs H Q => ∃ a b, x = .str a ∧ xs = [.str b] ∧ (b.length == 0) = false ∧ a.length + 2 ≤ sizeLine ∧ rNewStrs (Txt.split a b) H Q) te (tC (.str " "))) σ H (tParts t) := fun H1 e Q q =>
  h H1 e _ fun H2 e2 => ⟨⟨_, rfl⟩, _, _, rfl, rfl, rfl, by rw [SX.S_len, sizeLine_eq]; omega, fun p hp => by
    have e3 : Txt.split (SX.S t) (" " : Str) = (TL.spl [32] 0 [] t).map SX.S := SX.split_S (a := t) (b := [32]) (by decide) (by decide)
    rw [e3, List.map_map]
    exact q p _ (fresh_back e2 hp) (e2.trans (Ex.new hp)) upd_same⟩
theorem tParts_last (t : List Nat) : (tParts t).getLastD (.str (SX.S [])) = .str (SX.S ((partsOf t).getLastD [])) := by
  unfold tParts
  rw [List.getLastD_eq_getLast?, List.getLastD_eq_getLast?, List.getLast?_map]
  cases (partsOf t).getLast? <;> rfl
def fDig : V → V := fun x => match x with
  | .str s => .bl (Txt.isdigit s && decide (s.length < 6))
  | _ => .non
def fVal : V → V := fun x => match x with
  | .str s => .int ((NumText.digitsVal s.cps.toList : Nat) : Int)
  | _ => .non
def spWholeNumbers : Sp := fun vs H Q _ => ∃ l : List UInt8, vs = [.byt l.toArray] ∧ l.length ≤ 512 ∧ ∀ v H', Ex H H' → WnR (wholeNumbers l) v H' → Q v H'
theorem pe_isdigitK {X : Cx} {o : Expr} {to : TE} {apos pos : Pos} (ho : PE X o to) (hK : X.K = K := by rfl) (hbase : attributeBase o "isdigit" X.env (eval o X.env) = eval o X.env := by rfl) (hline : (apos.endLine == pos.line) = true := by rfl) :
    PE X (.Call (.Attribute o "isdigit" apos) [] [] pos) (tBM0 K "str" (fun x xs H Q => ∃ a, x = .str a ∧ xs = [] ∧ True ∧ Q (.bl (Txt.isdigit a)) H) to) := by
  subst hK
  exact pe_bm0 PySem.F.plainAttrs_str PySem.F.slot_str_isdigit PySem.F.type_str_isdigit mt_isdigit ho hbase hline
theorem sc_whole_numbers : FnScope ["block", "text", "parts", "part"] ["block"] (defScope (topS 78)) := ⟨rfl, rfl, rfl, by decide +kernel, rfl, by decide +kernel, by decide +kernel⟩
theorem ok_whole_numbers (g : GF K mg) (D : D0 K mg "whole_numbers" (topS 78)) (c_text_of : C8.Cal P w K mg base 1 "text_of" (spTextOf) [])  : C8.Cal P w K mg base 2 "whole_numbers" (spWholeNumbers) [] := by
  refine calD D (fun _ _ _ _ _ _ us hl => match us, hl with | [_], _ => rfl) sc_whole_numbers (fun vs H Q E h => by obtain ⟨l, rfl, hz, q⟩ := h; rfl) fun f cdv A outer s H vs Q E hr h => ?_
  have hu := hr.units
  have hu1 := hu_of hr
  obtain ⟨l, rfl, hz, q⟩ := h
  refine ⟨_, pss_cons (ps_set (i := 1) sc_whole_numbers.nd rfl (Or.inl rfl) (C8.pe_c c_text_of hr (by decide) rfl (pa_cons (pe_mG ty_byt PySem.W.FB.plainAttrs_bytes slB_replace tpB_replace mt_breplace (pv 0) (pa_cons (pe_byt) (pa_cons (pe_byt) (pa_nil)))) (pa_nil))))
      (pss_cons (ps_if (PW.pt (pw_or (pt_cmpR op_isN1 (pv 1) (pe_non) (nomark _)) (pw_or1 (pt_cmpR (op_eqX (K := K) hu) (pv 1) (pe_str) (nomark _))))) (pss_one (ps_ret (pe_non))) (pss_nil))
      (pss_cons (ps_set (i := 2) sc_whole_numbers.nd rfl (Or.inl rfl) (pe_split (pv 1) (pe_str)))
      (pss_cons (ps_if (PW.pt (pw_or (pt_cmpR (op_neX (K := K) hu) (pe_ix (ix_X (K := K)) (pv 2) (pe_un un_neg pe_int) (fun _ _ => rfl)) (pe_str) (nomark _)) (pw_or1 (pt_not (pt_val (pe_callB (cr_allX (K := K) rfl) rfl g.n_all bo_all (pa_cons (pe_lc (own := [("part", 3)]) (tt := tYes) rfl sc_whole_numbers.nd (pi_listK (K := K) (pe_slice (sl_X (K := K)) (pv 2) (po_none) (po_some (pe_un un_neg pe_int)))) (blkOk_by (N := ["block", "text", "parts", "part"]) (sc := defScope (topS 78)) (by decide +kernel)) (fun _ _ _ _ _ => pg_name (i := 3) sc_whole_numbers.nd rfl (Or.inl rfl)) (fun _ _ _ _ _ => pts_nil) (fun _ _ _ _ _ => pe_and (pe_isdigitK (K := K) (pv 3)) (pe_one (pe_cmpR op_lt (pe_callB (cr_lenX (K := K)) rfl g.n_len bo_len (pa_cons (pv 3) (pa_nil))) (pe_int) (nomark _))))) (pa_nil)))))))) (pss_one (ps_ret (pe_non))) (pss_nil))
      (pss_one (ps_ret (pe_lc (own := [("part", 3)]) (tt := tYes) rfl sc_whole_numbers.nd (pi_listK (K := K) (pe_slice (sl_X (K := K)) (pv 2) (po_none) (po_some (pe_un un_neg pe_int)))) (blkOk_by (N := ["block", "text", "parts", "part"]) (sc := defScope (topS 78)) (by decide +kernel)) (fun _ _ _ _ _ => pg_name (i := 3) sc_whole_numbers.nd rfl (Or.inl rfl)) (fun _ _ _ _ _ => pts_nil) (fun _ _ _ _ _ => pe_callTy cr_intX rfl g.n_int bo_int (pa_cons (pv 3) (pa_nil))))))))), ?_⟩
  have hr := repl_len hz
  have hrep : Ev (tMG tyByt rReplace (tVar 0) (tCons (fun _ H Q => Q (.byt ([10] : List UInt8).toArray) H) (tCons (fun _ H Q => Q (.byt ([32] : List UInt8).toArray) H) tNil))) (L2.start ["block", "text", "parts", "part"] [.byt l.toArray]) H (.byt (repl l).toArray) := fun H1 e Q q => by
    refine ⟨_, rfl, ⟨_, rfl⟩, l, [10], [32], rfl, rfl, by decide, by decide, by omega, ?_⟩
    have e0 : (repl l).toArray = Rep.repA l.toArray ([10] : List UInt8).toArray ([32] : List UInt8).toArray := by
      unfold repl
      rw [Array.toArray_toList]
    rw [e0] at q
    exact q H1 (Ex.refl _)
  refine q_asg (v := oT (textOf (repl l))) (ev_call (ea_cons hrep ea_nil) (Ret.sp fun H1 e Q E q => ⟨repl l, rfl, by omega, q⟩)) fun H1 e1 => ?_
  cases ht : textOf (repl l) with
  | none =>
    have e0 : wholeNumbers l = none := by
      unfold wholeNumbers
      rw [ht]
    refine q_when (b := true) (et_or (a := true) (b := true) (et_is (et_test (ev_op (ev_var rfl) ev_c rv_isN)) rfl) fun h => by cases h) (fun _ H2 e2 => s_ret ev_c fun H3 e3 => q _ _ ((e1.trans e2).trans e3) ?_) fun h => by cases h
    rw [e0]
    exact rfl
  | some t =>
    have hlt := textOf_lt ht
    have hlen := textOf_len ht
    refine q_when (b := decide (t = [])) (et_is (et_or (a := false) (et_is (et_test (ev_op (ev_var rfl) ev_c rv_isN)) rfl) fun _ => et_test (ev_op (ev_var rfl) (ev_lit (l := []) rfl) rv_eqT)) (Bool.false_or _)) (fun hb H2 e2 => s_ret ev_c fun H3 e3 => q _ _ ((e1.trans e2).trans e3) ?_) fun hb H2 e2 => ?_
    · have e0 : wholeNumbers l = none := by
        unfold wholeNumbers
        rw [ht]
        show (if t = [] then none else _) = none
        rw [if_pos (of_decide_eq_true hb)]
      rw [e0]
      exact rfl
    · have hne := of_decide_eq_false hb
      have hpar : (partsOf t).length ≤ 263683 := Nat.le_trans (spl_cnt [32] t [] 0) (by omega)
      have hpne : partsOf t ≠ [] := spl_ne [32] t [] 0
      refine q_asgL (xs := tParts t) (el_split (ev_var rfl) (by omega)) fun p H3 hp e3 h3 => ?_
      have hl : SqL K H3 p (tParts t) := sq_of h3
      have htne : tParts t ≠ [] := fun e => hpne (List.map_eq_nil_iff.mp e)
      have hdl : (tParts t).dropLast = ((partsOf t).dropLast).map fun p => V.str (SX.S p) := by unfold tParts; rw [List.map_dropLast]
      have hdlen : ((tParts t).dropLast).length ≤ 263683 := by
        rw [hdl, List.length_map, List.length_dropLast]
        omega
      have hmem : ∀ x ∈ (tParts t).dropLast, ∃ p, p ∈ (partsOf t).dropLast ∧ x = .str (SX.S p) ∧ (∀ c ∈ p, c < 128) ∧ p.length ≤ 263682 := fun x hx => by
        rw [hdl] at hx
        obtain ⟨p, hp, rfl⟩ := List.mem_map.mp hx
        refine ⟨p, hp, rfl, fun c hc => ?_, ?_⟩
        · rcases spl_in [32] t [] 0 p (List.dropLast_subset _ hp) c hc with q | q
          · cases q
          · exact hlt c q
        · have := spl_plen [32] t [] 0 p (List.dropLast_subset _ hp)
          simp only [List.length_nil] at this
          omega
      have hsl : ∀ {σ : L2.St} {H' : Hp}, Ex H3 H' → σ[2]? = some (some (.ref p)) → EvL (tSl (rSlX K) (tVar 2) tNoPart (tPart (tUn (rU fun i => .int (-i)) (tC (.int 1))))) σ H' ((tParts t).dropLast) := fun {σ H'} e h0 => by
        rw [← cutV_dropLast]
        exact el_slL (ev_var h0) (ex_l e hl) eo_none (eo_some (ev_un ev_c ru_neg))
      have hall : ∀ {H' : Hp} {σ : L2.St}, Ex H3 H' → σ = [some (.byt l.toArray), some (.str (SX.S t)), some (.ref p), none] → Ev (tCB (rAll K) (tCons (tLc (iList K (tSl (rSlX K) (tVar 2) tNoPart (tPart (tUn (rU fun i => .int (-i)) (tC (.int 1)))))) (gName 3) tYes (tAndV (tBM0 K "str" (fun x xs H Q => ∃ a, x = .str a ∧ xs = [] ∧ True ∧ Q (.bl (Txt.isdigit a)) H) (tVar 3)) (tOp (rI0 fun i j => .bl (decide (i < j))) (tCB (rLenX K) (tCons (tVar 3) tNil)) (tC (.int 6)))) [3]) tNil)) σ H' (.bl ((partsOf t).dropLast.all isNumT)) := fun {H' σ} e hσ => by
        have g := el_lcN (K := K) (σ := σ) (te := tAndV (tBM0 K "str" (fun x xs H Q => ∃ a, x = .str a ∧ xs = [] ∧ True ∧ Q (.bl (Txt.isdigit a)) H) (tVar 3)) (tOp (rI0 fun i j => .bl (decide (i < j))) (tCB (rLenX K) (tCons (tVar 3) tNil)) (tC (.int 6)))) (j := 3) (vs := [3]) fDig (hsl (σ := wipe σ []) e (by rw [hσ]; rfl)) (by omega) (fun x => by rw [hσ]; rfl) fun x hx => ?_
        · have e1 : ((tParts t).dropLast).map fDig = ((partsOf t).dropLast.map isNumT).map V.bl := by
            rw [hdl, List.map_map, List.map_map]
            refine List.map_congr_left fun p hp => ?_
            show V.bl (Txt.isdigit (SX.S p) && decide ((SX.S p).length < 6)) = V.bl (isNumT p)
            rw [SX.S_len]
            rfl
          rw [e1] at g
          have k := ev_all (K := K) g
          have e2 : ((partsOf t).dropLast.map isNumT).all id = (partsOf t).dropLast.all isNumT := by rw [List.all_map]; rfl
          rw [e2] at k
          exact k
        · obtain ⟨p, hp, rfl, hc, hpl⟩ := hmem x hx
          have h0 : ((wipe σ [3]).set 3 (some (V.str (SX.S p))))[3]? = some (some (V.str (SX.S p))) := by rw [hσ]; rfl
          refine ev_is (ev_andV (cr_isdig (ev_var h0)) fun _ => ev_op (ev_cb1 (ev_var h0) (rc_lenT (by omega))) ev_c rv_lt) (congrArg V.bl ?_)
          rw [SX.S_len]
          congr 1
          rw [decide_eq_decide]
          omega
      refine q_when (b := !(decide ((partsOf t).getLastD [] = []) && (partsOf t).dropLast.all isNumT)) (et_is (et_or (et_test (ev_op (ev_is (ev_ixL (ev_var rfl) (ev_un ev_c ru_neg) hl (atI_lastD htne (.str (SX.S [])))) (tParts_last t)) (ev_lit (l := []) rfl) rv_neT)) fun _ => et_not (et_B (hall (Ex.refl _) rfl))) (Bool.not_and _ _).symm) (fun hb H4 e4 => s_ret ev_c fun H5 e5 => q _ _ ((((e1.trans e2).trans e3).trans e4).trans e5) ?_) fun hb H4 e4 => ?_
      · have e0 : wholeNumbers l = none := by
          unfold wholeNumbers
          rw [ht]
          show (if t = [] then none else (if _ then _ else _)) = none
          rw [if_neg hne, if_neg]
          intro hh
          rw [decide_eq_true hh.1, hh.2] at hb
          cases hb
        rw [e0]
        exact rfl
      · have hb2 : (decide ((partsOf t).getLastD [] = []) && (partsOf t).dropLast.all isNumT) = true := by
          cases hh : (decide ((partsOf t).getLastD [] = []) && (partsOf t).dropLast.all isNumT)
          · rw [hh] at hb
            cases hb
          · rfl
        rw [Bool.and_eq_true, decide_eq_true_eq] at hb2
        have e0 : wholeNumbers l = some ((partsOf t).dropLast.map NumText.digitsVal) := by
          unfold wholeNumbers
          rw [ht]
          show (if t = [] then none else (if _ then _ else _)) = _
          rw [if_neg hne, if_pos hb2]
        have g := el_lcN (K := K) (σ := [some (.byt l.toArray), some (.str (SX.S t)), some (.ref p), none]) (te := tCB rIntX (tCons (tVar 3) tNil)) (j := 3) (vs := [3]) fVal (hsl (σ := [some (.byt l.toArray), some (.str (SX.S t)), some (.ref p), none]) e4 rfl) (by omega) (fun x => rfl) fun x hx => ?_
        · refine s_retR (R := fun v H => ∃ r, v = .ref r ∧ H r = some (.lst (((tParts t).dropLast).map fVal))) (Er.ofL g fun r H5 hr e5 h5 => ⟨r, rfl, h5⟩) fun v H5 e5 hv => q v H5 ((((e1.trans e2).trans e3).trans e4).trans e5) ?_
          rw [e0]
          obtain ⟨r, rfl, h5⟩ := hv
          refine ⟨r, rfl, ?_⟩
          rw [h5, hdl]
          unfold iLst
          rw [List.map_map, List.map_map]
          rfl
        · obtain ⟨p, hp, rfl, hc, hpl⟩ := hmem x hx
          have h1 := isNumT_all hc (List.all_eq_true.mp hb2.2 p hp)
          exact ev_cb1 (ev_var rfl) (rc_intS (SX.int_S h1.1 h1.2.1 (by omega)) (by omega))
end
end Tar

/-! TaP14 -/
set_option Elab.async false
set_option linter.all false
set_option maxRecDepth 100000
set_option maxHeartbeats 4000000
/-! defs, 14: spans_of -/
namespace Tar
open PySem PySem.Spec PyProof.Rows L2 Evl
def pairUp : List Nat → List (Nat × Nat)
  | a :: b :: r => (a, b) :: pairUp r
  | _ => []
def iss (ss : List (Nat × Nat)) : List (Int × Int) := ss.map fun s => ((s.1 : Int), (s.2 : Int))
theorem iss_pr (ss : List (Nat × Nat)) : iPr (iss ss) = nPr ss := by
  unfold iPr iss nPr
  rw [List.map_map]
  rfl
def sumS (ss : List (Nat × Nat)) : Nat := (ss.map fun s => s.2).sum
def spansOf (b : List UInt8) (many : Int) : Option (Nat × List (Nat × Nat)) := match wholeNumbers b with
  | some (size :: cnt :: r) => if r.length = 2 * cnt ∧ size ≤ 4096 ∧ areSpans size (iss (pairUp r)) = true ∧ ((sumS (pairUp r) : Nat) : Int) = many ∧ mapBlock size (pairUp r) = b then some (size, pairUp r) else none
  | _ => none
theorem pairUp_len : ∀ (c : Nat) (r : List Nat), r.length = 2 * c → (pairUp r).length = c
  | 0, r, h => by
    have : r = [] := List.length_eq_zero_iff.mp h
    subst this
    rfl
  | c + 1, r, h => by
    match r, h with
    | a :: b :: r, h =>
      have h2 : r.length = 2 * c := by simp only [List.length_cons] at h; omega
      show (pairUp r).length + 1 = c + 1
      rw [pairUp_len c r h2]
    | [a], h => simp only [List.length_cons, List.length_nil] at h; omega
    | [], h => simp only [List.length_nil] at h; omega
theorem pairUp_get : ∀ (c : Nat) (r : List Nat) (j : Nat), r.length = 2 * c → j < c → (pairUp r)[j]? = some (r.getD (2 * j) 0, r.getD (2 * j + 1) 0)
  | 0, r, j, h, hj => absurd hj (Nat.not_lt_zero _)
  | c + 1, r, j, h, hj => by
    match r, h with
    | a :: b :: r, h =>
      have h2 : r.length = 2 * c := by simp only [List.length_cons] at h; omega
      cases j with
      | zero => rfl
      | succ j =>
        have := pairUp_get c r j h2 (by omega)
        show (pairUp r)[j]? = _
        rw [this]
        have e1 : 2 * (j + 1) = 2 * j + 1 + 1 := by omega
        rw [e1]
        rfl
    | [a], h => simp only [List.length_cons, List.length_nil] at h; omega
    | [], h => simp only [List.length_nil] at h; omega
theorem pairUp_mem : ∀ (r : List Nat), ∀ s ∈ pairUp r, s.1 ∈ r ∧ s.2 ∈ r
  | [], s, h => by cases h
  | [a], s, h => by cases h
  | a :: b :: r, s, h => by
    rcases List.mem_cons.mp h with e | e
    · rw [e]
      exact ⟨List.mem_cons_self .., List.mem_cons_of_mem _ (List.mem_cons_self ..)⟩
    · have := pairUp_mem r s e
      exact ⟨List.mem_cons_of_mem _ (List.mem_cons_of_mem _ this.1), List.mem_cons_of_mem _ (List.mem_cons_of_mem _ this.2)⟩
theorem fm_map {α β : Type} (f : α → Option β) (g : α → β) : ∀ {l : List α}, (∀ x ∈ l, f x = some (g x)) → l.filterMap f = l.map g
  | [], _ => rfl
  | x :: l, h => by
    rw [List.filterMap_cons_some (h x (List.mem_cons_self ..)), List.map_cons, fm_map f g fun y hy => h y (List.mem_cons_of_mem _ hy)]
theorem pick_two {xs : List V} {c i : Nat} (hi : i = 2 ∨ i = 3) (hl : xs.length = 2 + 2 * c) : pickV xs (i : Int) 2 = (List.range c).map fun j => xs.getD (i + 2 * j) .non := by
  have h1 : sliceRange (sliceBounds (some (i : Int)) none (some 2) xs.length).1 (sliceBounds (some (i : Int)) none (some 2) xs.length).2.1 (sliceBounds (some (i : Int)) none (some 2) xs.length).2.2 = (List.range c).map fun j => i + 2 * j := by
    rw [hl]
    have e2 : (sliceBounds (some (i : Int)) none (some 2) (2 + 2 * c)) = (max 0 (min (i : Int) ((2 + 2 * c : Nat) : Int)), ((2 + 2 * c : Nat) : Int), 2) := by
      unfold sliceBounds
      have h0 : ¬ ((i : Int) < 0) := by omega
      simp only [Option.getD_some, show ((2 : Int) > 0) from by decide, if_true, if_neg h0]
    rw [e2]
    unfold sliceRange
    simp only [show ((2 : Int) > 0) from by decide, if_true]
    by_cases h0 : max 0 (min (i : Int) ((2 + 2 * c : Nat) : Int)) < ((2 + 2 * c : Nat) : Int)
    · rw [if_pos h0]
      have hn : ((((2 + 2 * c : Nat) : Int) - max 0 (min (i : Int) ((2 + 2 * c : Nat) : Int)) + 2 - 1) / 2).toNat = c := by omega
      rw [hn]
      refine List.map_congr_left fun j hj => ?_
      have := List.mem_range.mp hj
      omega
    · rw [if_neg h0]
      have : c = 0 := by omega
      subst this
      rfl
  unfold pickV
  rw [h1, List.filterMap_map]
  refine fm_map _ _ fun j hj => ?_
  have hj2 := List.mem_range.mp hj
  have hlt : i + 2 * j < xs.length := by omega
  show xs[i + 2 * j]? = some (xs.getD (i + 2 * j) .non)
  rw [List.getD_eq_getElem?_getD, List.getElem?_eq_getElem hlt]
  rfl
theorem pick_nums {a b : Nat} {r : List Nat} {c : Nat} (h : r.length = 2 * c) : pickV (iLst (a :: b :: r)) 2 2 = ((pairUp r).map fun s => V.int (s.1 : Int)) ∧ pickV (iLst (a :: b :: r)) 3 2 = ((pairUp r).map fun s => V.int (s.2 : Int)) := by
  have hl : (iLst (a :: b :: r)).length = 2 + 2 * c := by
    unfold iLst
    rw [List.length_map]
    simp only [List.length_cons]
    omega
  have hp := pairUp_len c r h
  have key : ∀ i : Nat, ∀ d : V, i < r.length → (iLst (a :: b :: r)).getD (2 + i) d = .int ((r.getD i 0 : Nat) : Int) := fun i d hi => by
    unfold iLst
    rw [List.getD_eq_getElem?_getD, List.getElem?_map, List.getD_eq_getElem?_getD]
    have : (a :: b :: r)[2 + i]? = r[i]? := by rw [Nat.add_comm]; rfl
    rw [this, List.getElem?_eq_getElem hi]
    rfl
  constructor
  · have e1 : pickV (iLst (a :: b :: r)) 2 2 = _ := pick_two (i := 2) (.inl rfl) hl
    rw [e1]
    apply List.ext_getElem?
    intro j
    by_cases hj : j < c
    · rw [List.getElem?_map, List.getElem?_range hj, List.getElem?_map, pairUp_get c r j h hj]
      exact congrArg some (key (2 * j) _ (by omega))
    · rw [List.getElem?_eq_none (by simp; omega), List.getElem?_eq_none (by rw [List.length_map]; omega)]
  · have e1 : pickV (iLst (a :: b :: r)) 3 2 = _ := pick_two (i := 3) (.inr rfl) hl
    rw [e1]
    apply List.ext_getElem?
    intro j
    by_cases hj : j < c
    · rw [List.getElem?_map, List.getElem?_range hj, List.getElem?_map, pairUp_get c r j h hj]
      have e3 : 3 + 2 * j = 2 + (2 * j + 1) := by omega
      show some ((iLst (a :: b :: r)).getD (3 + 2 * j) .non) = _
      rw [e3]
      exact congrArg some (key (2 * j + 1) _ (by omega))
    · rw [List.getElem?_eq_none (by simp; omega), List.getElem?_eq_none (by rw [List.length_map]; omega)]
/-- None | (size, spans) -/
def SpnR (K : PySem.W.Frag) (r : Option (Nat × List (Nat × Nat))) : V → Hp → Prop := fun v H => match r with
  | none => v = .non
  | some (n, ss) => ∃ p q, v = .ref p ∧ SqT K H p [.int (n : Int), .ref q] ∧ PrL K H q (nPr ss)
theorem spnR_sta (K : PySem.W.Frag) (r : Option (Nat × List (Nat × Nat))) : Sta (SpnR K r) := fun v H H' e h => by
  match r, h with
  | none, h => exact h
  | some (n, ss), ⟨p, q, h1, h2, h3⟩ => exact ⟨p, q, h1, ex_t e h2, h3.ex e⟩
section
variable {P : Program} {w : World} {K : PySem.W.Frag} {mg : Str → Option Value} {base : Heap}
theorem er_lzip {σ : L2.St} {H : Hp} {t1 t2 : TE} {xs ys : List V} (h1 : EvL t1 σ H xs) (h2 : EvL t2 σ H ys) (hl : xs.length = ys.length) : Er (tLZ K (tCons t1 (tCons t2 tNil))) σ H (fun v H1 => ∃ p, v = .ref p ∧ PrL K H1 p (xs.zip ys)) := fun H1 e Q q =>
  h1 H1 e _ fun a H2 ha e2 h2' => h2 H2 (e.trans e2) _ fun b H3 hb e3 h3 => ⟨a, b, xs, ys, rfl, sq_of (e3 _ _ h2'), sq_of h3, hl, fun p H4 hp e4 ⟨as, g1, g2, g3⟩ => q _ H4 ((e2.trans e3).trans e4) ⟨p, rfl, as, sq_of g1, by rw [List.length_zip, g2, ← hl, Nat.min_self], fun i t z hi hz => by
    obtain ⟨z1, z2⟩ := z
    rw [List.getElem?_zip_eq_some] at hz
    exact st_of (g3 i t z1 z2 hi hz.1 hz.2)⟩⟩
theorem el_slS {σ : L2.St} {H : Hp} {te tl ts : TE} {a : Addr} {xs : List V} {i k : Int} (h : Ev te σ H (.ref a)) (hx : SqL K H a xs) (h1 : Ev tl σ H (.int i)) (h2 : Ev ts σ H (.int k)) (hk : k ≠ 0) : EvL (tSlS K te tl ts) σ H (pickV xs i k) := fun H1 e1 Q q =>
  h H1 e1 _ fun H2 e2 => h1 H2 (e1.trans e2) _ fun H3 e3 => h2 H3 ((e1.trans e2).trans e3) _ fun H4 e4 => ⟨a, xs, i, k, rfl, ex_l (((e1.trans e2).trans e3).trans e4) hx, rfl, rfl, hk, fun p hp => q p _ (fresh_back ((e2.trans e3).trans e4) hp) (((e2.trans e3).trans e4).trans (Ex.new hp)) upd_same⟩
theorem q_parR {σ : L2.St} {H : Hp} {D : Ends} {tz : TS} {i j : Nat} {t1 t2 : TE} {v : V} {R : V → Hp → Prop} (h1 : Ev t1 σ H v) (h2 : Er t2 σ H R) (k : ∀ u H1, Ex H H1 → R u H1 → tz D ((σ.set i (some v)).set j (some u)) H1) : tSeq (tPar i j (tCons t1 (tCons t2 tNil))) tz D σ H :=
  h1 H (Ex.refl _) _ fun H1 e1 => h2 H1 e1 _ fun u H2 e2 r => ⟨v, u, rfl, k u H2 (e1.trans e2) r⟩
theorem ev_sumL {σ : L2.St} {H : Hp} {ta : TE} {ns : List Int} (h : EvL ta σ H (ns.map V.int)) : Ev (tCB (rSumX K) (tCons ta tNil)) σ H (.int ns.sum) := fun H1 e Q q =>
  h H1 e _ fun p H2 _ e2 h2 => .inr ⟨p, ns, rfl, sq_of h2, q H2 e2⟩
def spSpansOf (K : PySem.W.Frag) : Sp := fun vs H Q _ => ∃ (l : List UInt8) (m : Int), vs = [.byt l.toArray, .int m] ∧ l.length ≤ 512 ∧ ∀ v H', Ex H H' → SpnR K (spansOf l m) v H' → Q v H'
theorem sc_spans_of : FnScope ["block", "many", "numbers", "size", "spans", "offset", "length"] ["block", "many"] (defScope (topS 79)) := ⟨rfl, rfl, rfl, by decide +kernel, rfl, by decide +kernel, by decide +kernel⟩
theorem ok_spans_of (g : GF K mg) (D : D0 K mg "spans_of" (topS 79)) (c_map_block : C8.Cal P w K mg base 2 "map_block" (spMapBlock K) []) (c_are_spans : C8.Cal P w K mg base 1 "are_spans" (spAreSpans K) []) (c_whole_numbers : C8.Cal P w K mg base 2 "whole_numbers" (spWholeNumbers) [])  : C8.Cal P w K mg base 3 "spans_of" (spSpansOf K) [] := by
  refine calD D (fun _ _ _ _ _ _ us hl => match us, hl with | [_, _], _ => rfl) sc_spans_of (fun vs H Q E h => by obtain ⟨l, m, rfl, hz, q⟩ := h; rfl) fun f cdv A outer s H vs Q E hr h => ?_
  have hu := hr.units
  have hu1 := hu_of hr
  obtain ⟨l, m, rfl, hz, q⟩ := h
  refine ⟨_, pss_cons (ps_set (i := 2) sc_spans_of.nd rfl (Or.inl rfl) (C8.pe_c c_whole_numbers hr (by decide) rfl (pa_cons (pv 0) (pa_nil))))
      (pss_cons (ps_if (PW.pt (pw_or (pt_cmpR op_isN1 (pv 2) (pe_non) (nomark _)) (pw_or (pt_cmpR op_lt (pe_callB (cr_lenX (K := K)) rfl g.n_len bo_len (pa_cons (pv 2) (pa_nil))) (pe_int) (nomark _)) (pw_or1 (pt_cmpR (op_neX (K := K) hu) (pe_callB (cr_lenX (K := K)) rfl g.n_len bo_len (pa_cons (pv 2) (pa_nil))) (pe_op op_addX (pe_int) (pe_op op_mulX (pe_int) (pe_ix (ix_X (K := K)) (pv 2) (pe_int) (fun _ _ => rfl)))) (nomark _)))))) (pss_one (ps_ret (pe_non))) (pss_nil))
      (pss_cons (ps_par (i := 3) (j := 4) rfl sc_spans_of.nd rfl rfl (by decide) rfl rfl (pa_cons (pe_ix (ix_X (K := K)) (pv 2) (pe_int) (fun _ _ => rfl)) (pa_cons (pe_lzip rfl rfl g.n_list rfl g.n_zip (pa_cons (pe_sliceS (pv 2) pe_int pe_int) (pa_cons (pe_sliceS (pv 2) pe_int pe_int) pa_nil))) (pa_nil))) rfl)
      (pss_cons (ps_if (PW.pt (pw_or (pt_cmpR op_gt (pv 3) (C8.pe_gc rfl g.c_MOST_DATA) (nomark _)) (pw_or (pt_not (pt_val (C8.pe_c c_are_spans hr (by decide) rfl (pa_cons (pv 3) (pa_cons (pv 4) (pa_nil)))))) (pw_or1 (pt_cmpR (op_neX (K := K) hu) (pe_callB (cr_sumX (K := K) rfl) rfl g.n_sum bo_sum (pa_cons (pe_lc (own := [("offset", 5), ("length", 6)]) (tt := tYes) rfl sc_spans_of.nd (pi_listK (K := K) (pv 4)) (blkOk_by (N := ["block", "many", "numbers", "size", "spans", "offset", "length"]) (sc := defScope (topS 79)) (by decide +kernel)) (fun _ _ _ _ _ => pg_tupK (K := K) (n := 2) rfl (pgs_cons (pg_name (i := 5) sc_spans_of.nd rfl (Or.inl rfl)) (pgs_cons (pg_name (i := 6) sc_spans_of.nd rfl (Or.inl rfl)) (pgs_nil)))) (fun _ _ _ _ _ => pts_nil) (fun _ _ _ _ _ => pv 6)) (pa_nil))) (pv 1) (nomark _)))))) (pss_one (ps_ret (pe_non))) (pss_nil))
      (pss_one (ps_ret (pe_ifExp (pt_cmpR (op_eqX (K := K) hu) (C8.pe_c c_map_block hr (by decide) rfl (pa_cons (pv 3) (pa_cons (pv 4) (pa_nil)))) (pv 0) (nomark _)) (pe_tup (pa_cons (pv 3) (pa_cons (pv 4) (pa_nil)))) (pe_non))))))), ?_⟩
  refine q_asgR (R := WnR (wholeNumbers l)) (er_call (ea_cons (ev_var rfl) ea_nil) (fun H1 e Q q E => ⟨l, rfl, hz, q⟩)) fun v H1 e1 hv => ?_
  have hlt := fun ns => wholeNumbers_lt (b := l) (ns := ns)
  have hle := fun ns => wholeNumbers_len (b := l) (ns := ns) hz
  have out : ∀ {σ : L2.St} {H2 : Hp} {D : Ends}, D.rt = Q → Ex H1 H2 → spansOf l m = none → tRet (tC .non) D σ H2 := fun {σ H2 D} hD e2 hn => by
    refine s_ret ev_c fun H3 e3 => ?_
    rw [hD]
    refine q _ _ ((e1.trans e2).trans e3) ?_
    rw [hn]
    exact rfl
  unfold spansOf at out
  cases hw : wholeNumbers l with
  | none =>
    rw [hw] at hv out
    subst hv
    exact q_when (b := true) (et_or (a := true) (b := true) (et_is (et_test (ev_op (ev_var rfl) ev_c rv_isN)) rfl) fun h => by cases h) (fun _ H2 e2 => out rfl e2 rfl) fun h => by cases h
  | some ns =>
    rw [hw] at hv
    obtain ⟨p, rfl, hp⟩ := hv
    have hl : SqL K H1 p (iLst ns) := sq_of hp
    have lns : (iLst ns).length = ns.length := by unfold iLst; rw [List.length_map]
    have hlen : ∀ {σ : L2.St}, σ[2]? = some (some (.ref p)) → Ev (tCB (rLenX K) (tCons (tVar 2) tNil)) σ H1 (.int (ns.length : Int)) := fun {σ} h0 => by
      rw [← lns]
      exact ev_cb1 (ev_var h0) (rc_lenL hl)
    have hnN : ∀ {σ : L2.St}, σ[2]? = some (some (.ref p)) → EvT (tTest (tOp rIsN (tVar 2) (tC .non))) σ H1 false := fun {σ} h0 => et_is (et_test (ev_op (ev_var h0) ev_c rv_isN)) rfl
    rw [hw] at out
    rcases ns with _ | ⟨a, _ | ⟨b, r⟩⟩
    · skip
      exact q_when (b := true) (et_or (a := false) (b := true) (hnN rfl) fun _ => et_or (a := true) (b := true) (et_is (et_test (ev_op (hlen rfl) ev_c rv_lt)) rfl) fun h => by cases h) (fun _ H2 e2 => out rfl e2 rfl) fun h => by cases h
    · skip
      exact q_when (b := true) (et_or (a := false) (b := true) (hnN rfl) fun _ => et_or (a := true) (b := true) (et_is (et_test (ev_op (hlen rfl) ev_c rv_lt)) rfl) fun h => by cases h) (fun _ H2 e2 => out rfl e2 rfl) fun h => by cases h
    · skip
      have hb := hlt _ hw b (by simp)
      have ha := hlt _ hw a (by simp)
      have hrl := hle _ hw
      simp only [List.length_cons] at hrl
      refine q_when (b := !decide (r.length = 2 * b)) (et_is (et_or (a := false) (hnN rfl) fun _ => et_or (a := false) (et_is (et_test (ev_op (hlen rfl) ev_c rv_lt)) ?_) fun _ => et_test (ev_op (hlen rfl) (ev_op ev_c (ev_op ev_c (ev_ixL (ev_var rfl) ev_c hl (atI_nat (j := 1) (v := .int (b : Int)) rfl)) (rv_mulI (wide_mul (i := 2) (j := (b : Int)) (a := 10) (b := 40) (by decide) (by omega) (by decide) (by decide) (by decide)))) rv_addI) rv_neI)) ?_) (fun hbb H2 e2 => out rfl e2 ?_) fun hbb H2 e2 => ?_
      · simp only [List.length_cons, decide_eq_false_iff_not]
        omega
      · rw [Bool.false_or, Bool.false_or]
        congr 1
        rw [decide_eq_decide]
        simp only [List.length_cons]
        omega
      · have h0 : ¬ r.length = 2 * b := by simpa using hbb
        show (if r.length = 2 * b ∧ _ then _ else none) = none
        rw [if_neg fun h => h0 h.1]
      · have h0 : r.length = 2 * b := by simpa using hbb
        have hpk := pick_nums (a := a) (b := b) h0
        have z := er_lzip (K := K) (el_slS (K := K) (σ := [some (.byt l.toArray), some (.int m), some (.ref p), none, none, none, none]) (H := H2) (te := tVar 2) (tl := tC (.int 2)) (ts := tC (.int 2)) (ev_var rfl) (ex_l e2 hl) ev_c ev_c (by decide)) (el_slS (K := K) (te := tVar 2) (tl := tC (.int 3)) (ts := tC (.int 2)) (ev_var rfl) (ex_l e2 hl) ev_c ev_c (by decide)) (by rw [hpk.1, hpk.2, List.length_map, List.length_map])
        rw [hpk.1, hpk.2, List.zip_map'] at z
        refine q_parR (v := .int (a : Int)) (ev_ixL (ev_var rfl) ev_c (ex_l e2 hl) (atI_nat (j := 0) rfl)) z fun u H3 e3 hu => ?_
        obtain ⟨t, rfl, ht⟩ := hu
        replace ht : PrL K H3 t (nPr (pairUp r)) := ht
        have hsz : areSpans a (iss (pairUp r)) = true → (pairUp r).length ≤ 50 := fun h => by
          unfold areSpans at h
          split at h
          · cases h
          · rw [Bool.and_eq_true, decide_eq_true_eq, decide_eq_true_eq] at h
            have := h.2
            unfold iss at this
            rw [List.length_map] at this
            exact this
        have hsum : areSpans a (iss (pairUp r)) = true → Ev (tCB (rSumX K) (tCons (tLc (iList K (tVar 4)) (gTup K 2 (gCons (gName 5) (gCons (gName 6) gNil))) tYes (tVar 6) [5, 6]) tNil)) [some (.byt l.toArray), some (.int m), some (.ref p), some (.int (a : Int)), some (.ref t), none, none] H3 (.int ((sumS (pairUp r) : Nat) : Int)) := fun h => by
          have g := el_lcPrL (K := K) (σ := [some (.byt l.toArray), some (.int m), some (.ref p), some (.int (a : Int)), some (.ref t), none, none]) (H := H3) (tl := tVar 4) (te := tVar 6) (j := 5) (k := 6) (vs := [5, 6]) (fun z => z.2) (ev_var rfl) ht (by have := hsz h; unfold nPr; rw [List.length_map]; omega) (fun _ _ => rfl) fun z hz => ev_var rfl
          have e1 : (nPr (pairUp r)).map (fun z => z.2) = (((pairUp r).map (·.2)).map fun n : Nat => (n : Int)).map V.int := by
            unfold nPr
            rw [List.map_map, List.map_map, List.map_map]
            rfl
          rw [e1] at g
          have e4 : ∀ l : List Nat, ((l.map fun n : Nat => (n : Int)).sum) = ((l.sum : Nat) : Int) := fun l => by
            induction l with
            | nil => rfl
            | cons x l ih => rw [List.map_cons, List.sum_cons, List.sum_cons, ih]; omega
          have e5 : ((sumS (pairUp r) : Nat) : Int) = ((((pairUp r).map (·.2)).map fun n : Nat => (n : Int)).sum) := (e4 _).symm
          rw [e5]
          exact ev_sumL g
        refine q_when (b := !(decide (a ≤ 4096) && (areSpans a (iss (pairUp r)) && decide (((sumS (pairUp r) : Nat) : Int) = m)))) (et_is (et_or (et_test (ev_op (ev_var rfl) ev_c rv_gt)) fun _ => et_or (et_not (et_B (ev_call (z := .bl (areSpans a (iss (pairUp r)))) (ea_cons (ev_var rfl) (ea_cons (ev_var rfl) ea_nil)) fun H1 e Q q E => ⟨a, t, iss (pairUp r), rfl, by rw [iss_pr]; exact ht.ex e, q⟩))) fun hsp => et_test (ev_op (hsum (by simpa using hsp)) (ev_var rfl) rv_neI)) ?_) (fun hb2 H4 e4 => out rfl ((e2.trans e3).trans e4) ?_) fun hb2 H4 e4 => ?_
        · rw [Bool.not_and, Bool.not_and]
          congr 1
          rw [← decide_not, decide_eq_decide]
          omega
        · show (if r.length = 2 * b ∧ _ then _ else none) = none
          rw [if_neg fun h => ?_]
          rw [decide_eq_true h.2.1, h.2.2.1, decide_eq_true h.2.2.2.1] at hb2
          cases hb2
        · have hb3 : (decide (a ≤ 4096) && (areSpans a (iss (pairUp r)) && decide (((sumS (pairUp r) : Nat) : Int) = m))) = true := by
            cases hh : (decide (a ≤ 4096) && (areSpans a (iss (pairUp r)) && decide (((sumS (pairUp r) : Nat) : Int) = m)))
            · rw [hh] at hb2
              cases hb2
            · rfl
          rw [Bool.and_eq_true, Bool.and_eq_true, decide_eq_true_eq, decide_eq_true_eq] at hb3
          have hss := hsz hb3.2.1
          refine s_retR (R := SpnR K (spansOf l m)) (er_if (b := decide (mapBlock a (pairUp r) = l)) (et_test (ev_op (ev_call (z := .byt (mapBlock a (pairUp r)).toArray) (ea_cons (ev_var rfl) (ea_cons (ev_var rfl) ea_nil)) fun H1 e Q q E => ⟨a, t, pairUp r, rfl, ht.ex (e4.trans e), by omega, by omega, fun s hs => ?_, q⟩) (ev_var rfl) rv_eqY)) (fun hb4 => Er.ofU (eu_tup (ea_cons (ev_var rfl) (ea_cons (ev_var rfl) ea_nil)) (by simp)) fun t2 H5 ht2 e5 h5 => ?_) (fun hb4 => Er.of ev_c fun H5 e5 => ?_)) fun v H5 e5 hv => q v H5 ((((e1.trans e2).trans e3).trans e4).trans e5) hv
          · have h1 := pairUp_mem r s hs
            have h2 := hlt _ hw s.1 (by simp [h1.1])
            have h3 := hlt _ hw s.2 (by simp [h1.2])
            omega
          · have e0 : spansOf l m = some (a, pairUp r) := by
              unfold spansOf
              rw [hw]
              show (if _ then _ else _) = _
              rw [if_pos ⟨h0, hb3.1, hb3.2.1, hb3.2.2, of_decide_eq_true hb4⟩]
            rw [e0]
            exact ⟨t2, t, rfl, st_of h5, ht.ex (e4.trans e5)⟩
          · have e0 : spansOf l m = none := by
              unfold spansOf
              rw [hw]
              show (if _ then _ else _) = _
              rw [if_neg fun h => of_decide_eq_false hb4 h.2.2.2.2]
            rw [e0]
            exact rfl
end
end Tar

/-! TaP15 -/
set_option Elab.async false
set_option linter.all false
set_option maxRecDepth 100000
set_option maxHeartbeats 4000000
/-! defs, 15: sparse -/
namespace Tar
open PySem PySem.Spec PyProof.Rows L2 Evl
def piecesAt : List (Nat × Nat) → List UInt8 → Nat → List (Nat × List UInt8)
  | [], _, _ => []
  | s :: r, d, b => (s.1, (d.drop b).take s.2) :: piecesAt r d (b + s.2)
theorem piecesAt_app (d : List UInt8) (y : List (Nat × Nat)) : ∀ (x : List (Nat × Nat)) (b : Nat), piecesAt (x ++ y) d b = piecesAt x d b ++ piecesAt y d (b + sumS x)
  | [], b => rfl
  | s :: r, b => by
    show (s.1, (d.drop b).take s.2) :: piecesAt (r ++ y) d (b + s.2) = (s.1, (d.drop b).take s.2) :: (piecesAt r d (b + s.2) ++ piecesAt y d (b + sumS (s :: r)))
    rw [piecesAt_app d y r (b + s.2)]
    have : b + s.2 + sumS r = b + sumS (s :: r) := by
      unfold sumS
      rw [List.map_cons, List.sum_cons]
      omega
    rw [this]
theorem piecesAt_len (d : List UInt8) : ∀ (x : List (Nat × Nat)) (b : Nat), (piecesAt x d b).length = x.length
  | [], b => rfl
  | s :: r, b => congrArg (· + 1) (piecesAt_len d r (b + s.2))
theorem sumS_app (x y : List (Nat × Nat)) : sumS (x ++ y) = sumS x + sumS y := by
  unfold sumS
  rw [List.map_append, List.sum_append]
theorem lens_pieces (d : List UInt8) : ∀ (x : List (Nat × Nat)) (b : Nat), b + sumS x ≤ d.length → lensOf (piecesAt x d b) = iss x
  | [], b, h => rfl
  | s :: r, b, h => by
    have e : sumS (s :: r) = s.2 + sumS r := by
      unfold sumS
      rw [List.map_cons, List.sum_cons]
    show ((s.1 : Int), (((d.drop b).take s.2).length : Int)) :: lensOf (piecesAt r d (b + s.2)) = ((s.1 : Int), (s.2 : Int)) :: iss r
    rw [lens_pieces d r (b + s.2) (by omega), List.length_take, List.length_drop]
    congr 2
    omega
theorem spansFrom_pos : ∀ (ss : List (Int × Int)) (e e2 : Int), spansFrom e ss = some e2 → ∀ s ∈ ss, 1 ≤ s.2
  | [], e, e2, h, s, hs => by cases hs
  | t :: r, e, e2, h, s, hs => by
    have h2 : (if t.1 ≤ e ∨ t.2 < 1 then none else spansFrom (t.1 + t.2) r) = some e2 := h
    split at h2
    · cases h2
    · rename_i hn
      rcases List.mem_cons.mp hs with q | q
      · rw [q]
        omega
      · exact spansFrom_pos r _ e2 h2 s q
theorem areSpans_pos {n : Int} {ss : List (Int × Int)} (h : areSpans n ss = true) : (∀ s ∈ ss, 1 ≤ s.2) ∧ ss.length ≤ 50 := by
  unfold areSpans at h
  split at h
  · cases h
  · rename_i e he
    rw [Bool.and_eq_true, decide_eq_true_eq, decide_eq_true_eq] at h
    exact ⟨spansFrom_pos ss _ e he, h.2⟩
theorem sumS_mem : ∀ (ss : List (Nat × Nat)), ∀ s ∈ ss, s.2 ≤ sumS ss
  | [], s, h => by cases h
  | t :: r, s, h => by
    have e : sumS (t :: r) = t.2 + sumS r := by
      unfold sumS
      rw [List.map_cons, List.sum_cons]
    rcases List.mem_cons.mp h with q | q
    · rw [q]
      omega
    · have := sumS_mem r s q
      omega
section
variable {K : PySem.W.Frag} {σ : L2.St} {H : Hp} {D : Ends} {tu tz : TS} {tl te : TE}
theorem s_forPrE {H0 : Hp} {a : Addr} {ps : List (V × V)} {j k : Nat} (h : Ev tl σ H (.ref a)) (hx : PrL K H0 a ps) (Pv : Nat → L2.St → Hp → Prop) (he : ∀ i σ' H', Pv i σ' H' → Ex H0 H') (hH : Ex H0 H) (h0 : ∀ H1, Ex H H1 → Pv 0 σ H1)
    (hs : ∀ i z σ' H' (N : L2.St → Hp → Prop), ps[i]? = some z → Pv i σ' H' → (∀ σ2 H2, Pv (i + 1) σ2 H2 → N σ2 H2) → tu { D with nx := N, ct := N, bk := D.nx } ((σ'.set j (some z.1)).set k (some z.2)) H')
    (hd : ∀ σ' H', Pv ps.length σ' H' → D.nx σ' H') : tFor (iList K tl) (gTup K 2 (gCons (gName j) (gCons (gName k) gNil))) tu D σ H := by
  obtain ⟨as, hs1, hp⟩ := hx
  have hl : (as.map V.ref).length = ps.length := by rw [List.length_map]; exact hp.1
  refine s_forL h (ex_l hH hs1) Pv h0 (fun i σ' H' _ p => ex_l (he i σ' H' p) hs1) (fun i x σ' H' hi p => ?_) (fun σ' H' p => ?_)
  · obtain ⟨q, z, rfl, hz, ht⟩ := hp.get hi
    exact ⟨q, _, rfl, ex_t (he i σ' H' p) ht, rfl, _, _, rfl, _, _, rfl, rfl, hs i z σ' H' _ hz p fun σ2 H2 pv => pv⟩
  · rw [hl] at p
    exact hd σ' H' p
theorem q_forPrE {H0 : Hp} {a : Addr} {ps : List (V × V)} {j k : Nat} (h : Ev tl σ H (.ref a)) (hx : PrL K H0 a ps) (Pv : Nat → L2.St → Hp → Prop) (he : ∀ i σ' H', Pv i σ' H' → Ex H0 H') (hH : Ex H0 H) (h0 : ∀ H1, Ex H H1 → Pv 0 σ H1)
    (hs : ∀ i z σ' H' (N : L2.St → Hp → Prop), ps[i]? = some z → Pv i σ' H' → (∀ σ2 H2, Pv (i + 1) σ2 H2 → N σ2 H2) → tu { D with nx := N, ct := N, bk := tz D } ((σ'.set j (some z.1)).set k (some z.2)) H')
    (hd : ∀ σ' H', Pv ps.length σ' H' → tz D σ' H') : tSeq (tFor (iList K tl) (gTup K 2 (gCons (gName j) (gCons (gName k) gNil))) tu) tz D σ H := s_forPrE (D := { D with nx := tz D }) h hx Pv he hH h0 hs hd
theorem ea_starL {tr : TA} {a : Addr} {xs vs : List V} (h : Ev te σ H (.ref a)) (hx : SqL K H a xs) (hr : EvA tr σ H vs) : EvA (StX.tStar K te tr) σ H (xs ++ vs) := fun H1 e Q q =>
  h H1 e _ fun H2 e2 => ⟨a, xs, rfl, .inr (ex_l (e.trans e2) hx), hr H2 (e.trans e2) _ fun H3 e3 => q H3 (e2.trans e3)⟩
theorem er_mkS {C : Addr} {sp : Sp2} {t tk : TA} {vs zs : List V} {cs : Cs} {m : Mem} (h : EvA t σ H vs) (hk : EvA tk σ H zs)
    (hs : ∀ (x dx : Addr) (H1 : Hp) (Q : VK), Ex H H1 → H1 x = some (.ins C dx []) → (∀ H', ExB x H1 H' → MemR cs m (.ref x) H' → Q .non H') → sp (.ref x :: vs) zs H1 Q) : Er (tMakeS C sp t tk) σ H (MemR cs m) := fun H1 e Q q =>
  h H1 e _ fun H2 e2 => hk H2 (e.trans e2) _ fun H3 e3 x dx hx hdx hne => hs x dx _ _ (((e.trans e2).trans e3).trans fun a o ha => by rw [upd_ne (ne_of_none ha hx), upd_ne (ne_of_none ha hdx)]; exact ha) upd_same fun H' e4 hm => ⟨rfl, q _ _ ((e2.trans e3).trans fun a o ha => e4 a o (ne_of_none ha hx) (by rw [upd_ne (ne_of_none ha hx), upd_ne (ne_of_none ha hdx)]; exact ha)) hm⟩
end
section
variable {P : Program} {w : World} {K : PySem.W.Frag} {mg : Str → Option Value} {base : Heap}
def spSparse (K : PySem.W.Frag) (cs : Cs) : Sp := fun vs H Q _ => ∃ (name : List Nat) (f q : Addr) (d : List UInt8) (mode time n : Nat) (ss : List (Nat × Nat)), vs = [.str (SX.S name), .ref f, .byt d.toArray, .int (mode : Int), .int (time : Int)] ∧ SqT K H f [.int (n : Int), .ref q] ∧ PrL K H q (nPr ss) ∧
  d.length ≤ 100000 ∧ sumS ss ≤ d.length ∧ nmT name = true ∧ n ≤ 4096 ∧ areSpans n (iss ss) = true ∧ mode ≤ 4095 ∧ time ≤ 8589934591 ∧ ∀ v H', Ex H H' → MemR cs (.sparse name mode time n (piecesAt ss d 0)) v H' → Q v H'
theorem nPr_at {ss : List (Nat × Nat)} {i : Nat} {z : V × V} (h : (nPr ss)[i]? = some z) : ∃ s, ss[i]? = some s ∧ z = (.int (s.1 : Int), .int (s.2 : Int)) := by
  unfold nPr at h
  rw [List.getElem?_map] at h
  obtain ⟨s, h1, h2⟩ := Option.map_eq_some_iff.mp h
  exact ⟨s, h1, h2.symm⟩
theorem nPr_len (ss : List (Nat × Nat)) : (nPr ss).length = ss.length := by simp [nPr]
theorem PcL.snoc {H : Hp} {xs : List V} {ps : List (Nat × List UInt8)} {p : Addr} {z : Nat × List UInt8} (h : PcL H xs ps) (hp : H p = some (.tup [.int (z.1 : Int), .byt z.2.toArray])) : PcL H (xs ++ [.ref p]) (ps ++ [z]) := by
  obtain ⟨as, rfl, h2, h3⟩ := h
  refine ⟨as ++ [p], by simp, by simp [h2], fun i q y hi hy => ?_⟩
  by_cases hlt : i < as.length
  · rw [List.getElem?_append_left hlt] at hi
    rw [List.getElem?_append_left (by omega)] at hy
    exact h3 i q y hi hy
  · rw [List.getElem?_append_right (by omega)] at hi hy
    have h0 : i - as.length = 0 := by
      have := (List.getElem?_eq_some_iff.mp hi).1
      simp at this
      omega
    rw [h0] at hi
    rw [← h2, h0] at hy
    cases hi
    cases hy
    exact hp
theorem PcL.exL {H H' : Hp} {xs : List V} {ps : List (Nat × List UInt8)} {l : Addr} {us vs : List V} (h : PcL H xs ps) (hl : H l = some (.lst us)) (e : H' = upd H l (.lst vs)) : PcL H' xs ps := by
  subst e
  obtain ⟨as, h1, h2, h3⟩ := h
  refine ⟨as, h1, h2, fun i p z hp hz => ?_⟩
  have := h3 i p z hp hz
  rw [upd_ne (fun e => by rw [e, hl] at this; cases this)]
  exact this
theorem el_lst2 {σ : L2.St} {H : Hp} {D : Ends} {tz : TS} {i j : Nat} {z : Int} (k : ∀ l H1, H l = none → Ex H H1 → H1 l = some (.lst []) → tz D ((σ.set i (some (.ref l))).set j (some (.int z))) H1) : tSeq (tPar i j (tCons (tLst tNil) (tCons (tC (.int z)) tNil))) tz D σ H :=
  ⟨by rw [sizeLine_eq]; decide, fun l hl => ⟨_, _, rfl, k l _ hl (Ex.new hl) upd_same⟩⟩
theorem sc_sparse : FnScope ["name", "found", "data", "mode", "time", "size", "spans", "pieces", "begin", "offset", "length"] ["name", "found", "data", "mode", "time"] (defScope (topS 80)) := ⟨rfl, rfl, rfl, by decide +kernel, rfl, by decide +kernel, by decide +kernel⟩
theorem body_sparse {cs : Cs} (g : GF K mg) (c_Sparse : MakS P w K mg base 4 "Sparse" cs.sparse (spSparseI cs)) (f : Addr) (cdv : Value) (A : Around) (outer : List Env) (s : Shared) (H : Hp) (vs : List V) (Q : VK) (E : XK) (hr : Room 5 (A.deeper (envOfC "sparse" (defScope (topS 80)) s.heap.objs.size f cdv))) (h : spSparse K cs vs H Q E) :
      ∃ t, PSs (cxOf C8.CX0 P w K mg base ["name", "found", "data", "mode", "time", "size", "spans", "pieces", "begin", "offset", "length"] "sparse" (defScope (topS 80)) f cdv A outer s H E).nox (defBody (topS 80)) t ∧ t { nx := fun _ H' => Q .non H', rt := Q } (start ["name", "found", "data", "mode", "time", "size", "spans", "pieces", "begin", "offset", "length"] vs) H := by
  have hu := hr.units
  obtain ⟨name, fa, q0, d, mode, time, n, ss, rfl, hf, hq, hd, hs, hn, hsz, ha, hmo, hti, q⟩ := h
  refine ⟨_, pss_cons (ps_asg (pv 1) (pg_tupK (K := K) (n := 2) rfl (pgs_cons (pg_name (i := 5) sc_sparse.nd rfl (Or.inl rfl)) (pgs_cons (pg_name (i := 6) sc_sparse.nd rfl (Or.inl rfl)) (pgs_nil)))))
      (pss_cons (ps_par (i := 7) (j := 8) rfl sc_sparse.nd rfl rfl (by decide) rfl rfl (pa_cons (pe_lst (pa_nil)) (pa_cons (pe_int) (pa_nil))) rfl)
      (pss_cons (ps_for PassesOwn.never rfl (pi_listK (K := K) (pv 6)) (pg_tupK (K := K) (n := 2) rfl (pgs_cons (pg_name (i := 9) sc_sparse.nd rfl (Or.inl rfl)) (pgs_cons (pg_name (i := 10) sc_sparse.nd rfl (Or.inl rfl)) (pgs_nil))))
      (pss_cons (ps_expr (pe_bm PySem.F.plainAttrs_list PySem.F.slot_list_append PySem.F.type_list_append mt_append (pv 7) (pa_cons (pe_tup (pa_cons (pv 9) (pa_cons (pe_slice (sl_X (K := K)) (pv 2) (po_some (pv 8)) (po_some (pe_op op_addX (pv 8) (pv 10)))) (pa_nil)))) (pa_nil))))
      (pss_one (ps_aug (i := 8) sc_sparse.nd rfl (Or.inl rfl) (pv 10) ip_add))))
      (pss_one (ps_ret (pe_mkS c_Sparse hr (by decide) rfl (pa_cons (pv 0) (pa_cons (pv 5) (StX.pa_star (pv 7) (pa_nil)))) (pk_cons (pv 3) (pk_cons (pv 4) (pk_nil)))))))), ?_⟩
  refine q_asgP2 (x := .int (n : Int)) (y := .ref q0) (Er.of (ev_var rfl) fun H1 e1 => ⟨fa, rfl, ex_t e1 hf⟩) fun H1 e1 => ?_
  obtain ⟨hpos, hlen⟩ := areSpans_pos ha
  have hlen2 : ss.length ≤ 50 := by unfold iss at hlen; rw [List.length_map] at hlen; exact hlen
  refine el_lst2 (σ := [some (.str (SX.S name)), some (.ref fa), some (.byt d.toArray), some (.int (mode : Int)), some (.int (time : Int)), some (.int (n : Int)), some (.ref q0), none, none, none, none]) fun l H2 hl e2 h2 => ?_
  have e02 := e1.trans e2
  have hl0 : H l = none := fresh_back e1 hl
  refine q_forPrE (H0 := H) (ev_var rfl) hq (fun i σ' H' => Ex H H' ∧ ∃ x y xs, σ' = [some (.str (SX.S name)), some (.ref fa), some (.byt d.toArray), some (.int (mode : Int)), some (.int (time : Int)), some (.int (n : Int)), some (.ref q0), some (.ref l), some (.int ((sumS (ss.take i) : Nat) : Int)), x, y] ∧ H' l = some (.lst xs) ∧ PcL H' xs (piecesAt (ss.take i) d 0)) (fun i σ' H' p => p.1) e02 (fun H3 e3 => ⟨e02.trans e3, none, none, [], rfl, e3 _ _ h2, [], rfl, rfl, fun i p z hp => by cases hp⟩) (fun i z σ' H' N hz p hN => ?_) (fun σ' H' p => ?_)
  · obtain ⟨eH, x, y, xs, rfl, hxl, hpc⟩ := p
    obtain ⟨s0, hs0, rfl⟩ := nPr_at hz
    have hi : i < ss.length := (List.getElem?_eq_some_iff.mp hs0).1
    have hxs : xs.length ≤ 50 := by
      obtain ⟨as, rfl, h2', _⟩ := id hpc
      rw [List.length_map, h2', piecesAt_len, List.length_take]
      omega
    have ht := take_snoc hs0
    refine q_appU (K := K) hxl (ev_var rfl) (eu_tup (ea_cons (ev_var rfl) (ea_cons (ev_slY (m := (d.drop (sumS (ss.take i))).take (sumS (ss.take i) + s0.2 - sumS (ss.take i))) (ev_var rfl) (eo_n (ev_var rfl)) (eo_n (ev_is (ev_op (ev_var rfl) (ev_var rfl) rv_addI) (congrArg V.int (show ((sumS (ss.take i) : Nat) : Int) + (s0.2 : Int) = ((sumS (ss.take i) + s0.2 : Nat) : Int) by omega)))) (by omega) sl_gen) ea_nil)) (by simp)) (by omega) fun p H3 hp e3 h3 => ?_
    have hlp : l ≠ p := fun e => by rw [← e, hxl] at hp; cases hp
    have hsum : sumS (ss.take (i + 1)) = sumS (ss.take i) + s0.2 := by
      rw [ht, sumS_app]
      rfl
    refine s_aug (a := ((sumS (ss.take i) : Nat) : Int)) (b := (s0.2 : Int)) rfl (ev_var rfl) fun H4 e4 => hN _ _ ⟨fun a o ho => e4 _ _ ?_, some (.int (s0.1 : Int)), some (.int (s0.2 : Int)), xs ++ [.ref p], ?_, e4 _ _ upd_same, ?_⟩
    · rw [upd_ne (ne_of_none ho hl0)]
      exact e3 _ _ (eH _ _ ho)
    · rw [hsum]
      show [some (V.str (SX.S name)), some (V.ref fa), some (V.byt d.toArray), some (V.int (mode : Int)), some (V.int (time : Int)), some (V.int (n : Int)), some (V.ref q0), some (V.ref l), some (V.int ((sumS (ss.take i) : Nat) + (s0.2 : Int) : Int)), some (.int (s0.1 : Int)), some (.int (s0.2 : Int))] = _
      rw [Int.natCast_add]
    · rw [ht, piecesAt_app, Nat.zero_add]
      refine PcL.ex e4 (PcL.snoc ((PcL.ex e3 hpc).exL (e3 _ _ hxl) rfl) ?_)
      rw [upd_ne (Ne.symm hlp), h3]
      show some (HO.tup [_, V.byt ((d.drop _).take (sumS (ss.take i) + s0.2 - sumS (ss.take i))).toArray]) = _
      rw [Nat.add_sub_cancel_left]
  · obtain ⟨eH, x, y, xs, rfl, hxl, hpc⟩ := p
    rw [nPr_len, List.take_length] at hpc
    have hpl := piecesAt_len d ss 0
    have hlp := lens_pieces d ss 0 (by omega)
    have hz : ∀ z ∈ piecesAt ss d 0, z.2.length ≤ 100000 ∧ 0 < z.2.length := fun z hz => by
      have hm : ((z.1 : Int), (z.2.length : Int)) ∈ lensOf (piecesAt ss d 0) := List.mem_map.mpr ⟨z, hz, rfl⟩
      rw [hlp] at hm
      have h1 := hpos _ hm
      obtain ⟨s1, hs1, e⟩ := List.mem_map.mp hm
      have h2 := sumS_mem ss s1 hs1
      have e2 : (s1.2 : Int) = (z.2.length : Int) := congrArg Prod.snd e
      have h1' : (1 : Int) ≤ (z.2.length : Int) := h1
      omega
    refine s_retR (er_mkS (cs := cs) (m := .sparse name mode time n (piecesAt ss d 0)) (ea_cons (ev_var rfl) (ea_cons (ev_var rfl) (ea_starL (xs := xs) (ev_var rfl) (sq_of hxl) ea_nil))) (ea_cons (ev_var rfl) (ea_cons (ev_var rfl) ea_nil)) fun x dx H5 Q' e5 hx q' => ⟨x, dx, name, n, mode, time, xs ++ [], piecesAt ss d 0, rfl, rfl, hx, by rw [List.append_nil]; exact hpc.ex e5, by omega, hn, hsz, fun z h => (hz z h).1, fun z h => (hz z h).2, by rw [hlp]; exact ha, hmo, hti, q'⟩) fun v H5 e5 hm => q v H5 (eH.trans e5) hm
theorem ok_sparse {cs : Cs} (g : GF K mg) (D : D0 K mg "sparse" (topS 80)) (c_Sparse : MakS P w K mg base 4 "Sparse" cs.sparse (spSparseI cs)) : CalN P w K mg base 6 "sparse" (spSparse K cs) 3 ["mode", "time"] (fun vs zs => vs ++ zs) := by
  obtain ⟨f, fd, F, m⟩ := D.ex
  refine ⟨f, fd, ["name", "found", "data", "mode", "time"], fun us ws => us ++ ws, F.ok sc_sparse (fun vs H Q E h => by obtain ⟨_, _, _, _, _, _, _, _, rfl, _⟩ := h; rfl) fun cdv A outer s H vs Q E hr hs => ?_, m, F.kp, ?_⟩
  · obtain ⟨t, ht, q⟩ := body_sparse g c_Sparse f cdv A outer s H vs Q E hr hs
    exact ⟨t, ht.nox, q⟩
  · obtain ⟨oc, od, dV, kV, doc, pm, an, cdv, ct, osl, rfl, lk, hcd, hD, hK⟩ := F.ex
    refine ⟨fun s us ws X l1 l2 => ?_, fun r1 r2 => r1.append r2⟩
    rcases hD with ⟨_, rfl⟩ | ⟨e, _⟩
    · refine .of_eq ?_
      match us, ws, l1, l2 with
      | [a, b, c], [d, e], _, _ => rfl
    · exact absurd rfl e
end
end Tar

/-! TaP16 -/
set_option Elab.async false
set_option linter.all false
set_option maxRecDepth 100000
set_option maxHeartbeats 4000000
/-! defs, 16: at_header -/
namespace Tar
open PySem PySem.Spec PyProof.Rows L2 Evl
inductive Look where
  | mem (m : Mem) (e : Nat)
  | over (e : Nat)
  | bad (n : Nat)
def LookR (K : PySem.W.Frag) (cs : Cs) (r : Look) : V → Hp → Prop := fun v H => match r with
  | .mem m e => ∃ p u, v = .ref p ∧ SqT K H p [u, .int (e : Int), .non] ∧ MemR cs m u H
  | .over e => ∃ p, v = .ref p ∧ SqT K H p [.non, .int (e : Int), .non]
  | .bad n => BadR K n v H
theorem lookR_sta (K : PySem.W.Frag) (cs : Cs) (r : Look) : Sta (LookR K cs r) := fun v H H' e h => by
  cases r with
  | mem m n => obtain ⟨p, u, h1, h2, h3⟩ := h; exact ⟨p, u, h1, ex_t e h2, memR_sta cs m _ _ _ e h3⟩
  | over n => obtain ⟨p, h1, h2⟩ := h; exact ⟨p, h1, ex_t e h2⟩
  | bad n => exact badR_sta K n _ _ _ e h
/-- a long text | the field's -/
def nmO (o lo : Option (List Nat)) : Option (List Nat) := match lo with
  | some t => some t
  | none => o
def numD (b : List UInt8) (i : Nat) : Nat := (numAt b i).getD 0
def memOf (d b : List UInt8) (at_ : Nat) (lk ll : Option (List Nat)) : Mem :=
  if kindOf b = [48] then .file ((nmO (nameOf b) ll).getD []) (numD b 0) (numD b 4) (sub d (at_ + 512) (at_ + 512 + numD b 3))
  else if kindOf b = [83] then .sparse ((nmO (nameOf b) ll).getD []) (numD b 0) (numD b 4) ((spansOf (sub d (at_ + 512) (at_ + 512 + 512)) ((numD b 3 : Nat) - 512 : Int)).getD (0, [])).1 (piecesAt ((spansOf (sub d (at_ + 512) (at_ + 512 + 512)) ((numD b 3 : Nat) - 512 : Int)).getD (0, [])).2 (sub d (at_ + 512 + 512) (at_ + 512 + numD b 3)) 0)
  else if kindOf b = [53] then .dir ((nmO (nameOf b) ll).getD []) (numD b 0) (numD b 4)
  else if kindOf b = [50] then .sym ((nmO (nameOf b) ll).getD []) (numD b 0) (numD b 4) ((nmO (targetOf b) lk).getD [])
  else .link ((nmO (nameOf b) ll).getD []) (numD b 0) (numD b 4) ((nmO (targetOf b) lk).getD [])
def endAt (at_ n : Nat) : Nat := at_ + 512 + (n + 511) / 512 * 512
def atHeader (d : List UInt8) (start at_ : Nat) (lk ll : Option (List Nat)) : Look :=
  if kindOf (sub d at_ (at_ + 512)) = [83] ∧ at_ + 512 + 512 ≤ d.length ∧ spansOf (sub d (at_ + 512) (at_ + 512 + 512)) ((numD (sub d at_ (at_ + 512)) 3 : Nat) - 512 : Int) = none then .bad at_
  else if d.length < endAt at_ (numD (sub d at_ (at_ + 512)) 3) then .bad start
  else if sub d (at_ + 512 + numD (sub d at_ (at_ + 512)) 3) (endAt at_ (numD (sub d at_ (at_ + 512)) 3)) ≠ zs (endAt at_ (numD (sub d at_ (at_ + 512)) 3) - (at_ + 512) - numD (sub d at_ (at_ + 512)) 3) then .bad at_
  else .mem (memOf d (sub d at_ (at_ + 512)) at_ lk ll) (endAt at_ (numD (sub d at_ (at_ + 512)) 3))
/-! ### what a right header says -/
structure WF (l : List UInt8) (lk ll : Option (List Nat)) : Prop where
  name : isNameRight l ll = true
  num : wrongNum l = none
  kind : isKindRight l lk ll = true
  target : isTargetRight l lk = true
  magic : sub l 257 265 = magicField
  rest : l.drop 265 = zs 247
  sum : sub l 148 156 = checksumField l
  size : ∃ n, numAt l 3 = some n ∧ (sizeOf (kindOf l)).1 ≤ n ∧ n ≤ (sizeOf (kindOf l)).2
theorem wf_of {l : List UInt8} {lk ll : Option (List Nat)} (h : wrongField l lk ll = none) : WF l lk ll := by
  unfold wrongField at h
  split at h
  · cases h
  rename_i h1
  split at h
  · cases h
  rename_i h2
  split at h
  · cases h
  rename_i h3
  split at h
  · cases h
  rename_i h4
  split at h
  · cases h
  rename_i h5
  split at h
  · cases h
  rename_i h6
  split at h
  · cases h
  rename_i h7
  obtain ⟨n, hn, _⟩ := numAt_some h2 (i := 3) (by decide)
  rw [hn] at h
  dsimp only at h
  split at h
  · rename_i h8
    exact ⟨by simpa using h1, h2, by simpa using h3, by simpa using h4, by simpa using h5, by simpa using h6, by simpa using h7, n, hn, h8⟩
  · cases h
theorem kind_one {l : List UInt8} {lk ll : Option (List Nat)} (h : isKindRight l lk ll = true) : ∃ c, kindOf l = [c] ∧ c ∈ kKIN ∧ (inT (kindOf l) [75, 76] = isLL l) ∧ ((lk.isSome = true ∨ ll.isSome = true) → c ≠ 75) ∧ (lk.isSome = true → c ∈ ([76, 49, 50] : List Nat)) := by
  unfold isKindRight at h
  simp only [Bool.and_eq_true, Bool.not_eq_true', Bool.or_eq_false_iff, Bool.and_eq_false_iff, bne_eq_false_iff_eq] at h
  obtain ⟨⟨h1, h2, h3⟩, h4, h5⟩ := h
  have hl := kindOf_len l
  have hne := of_decide_eq_false h1
  match hk : kindOf l, hl with
  | [], _ => exact absurd hk hne
  | [c], _ =>
    rw [hk, inT_one] at h2
    rw [hk] at h4 h5 h3
    refine ⟨c, rfl, of_decide_eq_true (by simpa using h2), h3, fun hh e => ?_, fun hh => ?_⟩
    · subst e
      rcases h4 with h4 | h4
      · rcases hh with q | q
        · rw [q] at h4
          simp at h4
        · rw [q] at h4
          simp at h4
      · simp at h4
    · rw [hh] at h5
      rw [inT_one] at h5
      simpa using h5
  | a :: b :: r, hl => exact absurd hl (by simp)
theorem octNum_lt : ∀ (n : Nat) (p : List Nat), p.length = n → octB p = true → Oc.octNum p < 8 ^ n
  | 0, p, hl, _ => by
    have : p = [] := List.length_eq_zero_iff.mp hl
    subst this
    decide
  | n + 1, p, hl, h => by
    have hne : p ≠ [] := fun e => by rw [e] at hl; cases hl
    unfold octB at h
    rw [← List.dropLast_concat_getLast hne, octNum_snoc]
    have h1 := octNum_lt n p.dropLast (by rw [List.length_dropLast]; omega) (List.all_eq_true.mpr fun c hc => List.all_eq_true.mp h c (List.dropLast_subset p hc))
    have h2 := List.all_eq_true.mp h _ (List.getLast_mem hne)
    rw [Bool.and_eq_true, decide_eq_true_eq, decide_eq_true_eq] at h2
    rw [Nat.pow_succ]
    omega
theorem numberOf_lt {f : List UInt8} {n k : Nat} (h : numberOf f = some n) (hl : f.length ≤ k + 1) : n < 8 ^ k := by
  unfold numberOf at h
  split at h
  · cases h
  · rename_i d hd
    split at h
    · rename_i h2
      cases h
      have h3 := octNum_lt _ d rfl h2.2
      exact Nat.lt_of_lt_of_le h3 (Nat.pow_le_pow_right (by decide) (by omega))
    · cases h
structure HdrOk (l : List UInt8) (lk ll : Option (List Nat)) : Prop where
  mode : ∃ n, numAt l 0 = some n ∧ n ≤ 4095
  time : ∃ n, numAt l 4 = some n ∧ n ≤ 8589934591
  size : ∃ n, numAt l 3 = some n ∧ (sizeOf (kindOf l)).1 ≤ n ∧ n ≤ (sizeOf (kindOf l)).2
  name : ∃ t, nmO (nameOf l) ll = some t ∧ nmT t = true
  kind : kindOf l = [48] ∨ kindOf l = [83] ∨ kindOf l = [53] ∨ kindOf l = [50] ∨ kindOf l = [49]
  target : (kindOf l = [50] ∨ kindOf l = [49]) → ∃ t, nmO (targetOf l) lk = some t ∧ nmT t = true
theorem isName_some {o : Option (List Nat)} (h : isName o = true) : ∃ t, o = some t ∧ nmT t = true := by
  cases o with
  | none => cases h
  | some t => exact ⟨t, rfl, h⟩
theorem hdr_ok {l : List UInt8} {lk ll : Option (List Nat)} (h : WF l lk ll) (hk : inT (kindOf l) [75, 76] = false) (h1 : ∀ t ∈ lk, nmT t = true) (h2 : ∀ t ∈ ll, nmT t = true) : HdrOk l lk ll := by
  obtain ⟨c, ec, hc, hll, _, _⟩ := kind_one h.kind
  rw [hk] at hll
  have hLL : ¬ nameOf l = some kLL := of_decide_eq_false hll.symm
  refine ⟨?_, ?_, h.size, ?_, ?_, fun hc2 => ?_⟩
  · obtain ⟨n, hn, ho⟩ := numAt_some h.num (i := 0) (by decide)
    refine ⟨n, hn, ?_⟩
    unfold okNum at ho
    rw [Bool.and_eq_true, Bool.and_eq_true] at ho
    have := ho.1.1
    have e : decide (V.str (numB 0).1 = V.str "mode") = true := by decide
    rw [e] at this
    simpa using this
  · obtain ⟨n, hn, ho⟩ := numAt_some h.num (i := 4) (by decide)
    have := numberOf_lt (k := 11) hn (by rw [sub_len]; show min (136 + 12 - 136) _ ≤ 12; omega)
    exact ⟨n, hn, by omega⟩
  · have hn := h.name
    unfold isNameRight at hn
    cases ll with
    | some t => exact ⟨t, rfl, h2 t rfl⟩
    | none =>
      dsimp only at hn
      rw [decide_eq_false hLL, Bool.false_or] at hn
      exact isName_some hn
  · rw [ec] at hk ⊢
    rw [inT_one] at hk
    have hk2 := of_decide_eq_false hk
    simp only [kKIN, List.mem_cons, List.not_mem_nil, or_false] at hc hk2
    simp only [List.cons.injEq, and_true]
    omega
  · have ht := h.target
    unfold isTargetRight at ht
    have e : inT (kindOf l) [49, 50] = true := by
      rcases hc2 with e | e
      · rw [e, inT_one]; rfl
      · rw [e, inT_one]; rfl
    rw [if_pos e] at ht
    cases lk with
    | some t => exact ⟨t, rfl, h1 t rfl⟩
    | none => exact isName_some ht
end Tar

/-! TaP17 -/
set_option Elab.async false
set_option linter.all false
set_option maxRecDepth 100000
set_option maxHeartbeats 4000000
/-! defs, 17: at_header -/
namespace Tar
open PySem PySem.Spec PyProof.Rows L2 Evl
section
variable {σ : L2.St} {H : Hp} {D : Ends} {tz t tu : TS} {te td ty tx : TE}
theorem q_match {tm : Str → TS} {x : Str} (h : Ev te σ H (.str x)) (k : ∀ H1, Ex H H1 → tm x { D with nx := tz D } σ H1) : tSeq (tMatch te tm) tz D σ H := h H (Ex.refl _) _ fun H1 e => ⟨x, rfl, k H1 e⟩
theorem case_eq {u : Str → TS} {c x : Str} (h : x = c) (k : t D σ H) : tCase c t u x D σ H := by
  show (if x = c then t D σ H else u x D σ H)
  rw [if_pos h]
  exact k
theorem case_ne {u : Str → TS} {c x : Str} (h : x ≠ c) (k : u x D σ H) : tCase c t u x D σ H := by
  show (if x = c then t D σ H else u x D σ H)
  rw [if_neg h]
  exact k
theorem ev_dget2 {a : Addr} {kvs : List (Key × V)} {k : Key} {z : V} (h : Ev td σ H (.ref a)) (hy : Ev ty σ H (kV k)) (hx : Ev tx σ H z) (hd : H a = some (.dK kvs)) : Ev (tDGet2 td ty tx) σ H ((valV kvs k).getD z) := fun H1 e Q q =>
  h H1 e _ fun H2 e2 => ⟨a, rfl, .inl ⟨kvs, .inl (e2 _ _ (e _ _ hd))⟩, hy H2 (e.trans e2) _ fun H3 e3 => hx H3 ((e.trans e2).trans e3) _ fun H4 e4 => ⟨_, .inl ⟨kvs, k, .inl (e4 _ _ (e3 _ _ (e2 _ _ (e _ _ hd)))), rfl, rfl⟩, q H4 ((e2.trans e3).trans e4)⟩⟩
theorem q_par3 {i j l : Nat} {ta : TA} {u v w : V} (h : EvA ta σ H [u, v, w]) (k : ∀ H1, Ex H H1 → tz D (((σ.set i (some u)).set j (some v)).set l (some w)) H1) : tSeq (tPar3 i j l ta) tz D σ H := h H (Ex.refl _) _ fun H1 e => ⟨u, v, w, rfl, k H1 e⟩
/-- x, y = e1, e2: the first told by a relation -/
theorem q_parL {i j : Nat} {t1 t2 : TE} {v : V} {R : V → Hp → Prop} (h1 : Er t1 σ H R) (st : Sta R) (h2 : Ev t2 σ H v) (k : ∀ u H1, Ex H H1 → R u H1 → tz D ((σ.set i (some u)).set j (some v)) H1) : tSeq (tPar i j (tCons t1 (tCons t2 tNil))) tz D σ H :=
  h1 H (Ex.refl _) _ fun u H1 e1 r => h2 H1 e1 _ fun H2 e2 => ⟨u, v, rfl, k u H2 (e1.trans e2) (st _ _ _ e2 r)⟩
theorem q_whenJ {b : Bool} {tt : TT} {J : L2.St → Hp → Prop} (h : EvT tt σ H b) (h1 : b = true → ∀ H1 (N : L2.St → Hp → Prop), Ex H H1 → (∀ σ' H', J σ' H' → N σ' H') → tu { D with nx := N } σ H1) (h2 : b = false → ∀ H1, Ex H H1 → J σ H1) (k : ∀ σ' H', J σ' H' → tz D σ' H') : tSeq (tIfS tt tu tNext) tz D σ H := q_when h (fun hb H1 e => h1 hb H1 _ e k) (fun hb H1 e => k _ _ (h2 hb H1 e))
theorem q_matchJ {tm : Str → TS} {x : Str} {J : L2.St → Hp → Prop} (h : Ev te σ H (.str x)) (h1 : ∀ H1 (N : L2.St → Hp → Prop), Ex H H1 → (∀ σ' H', J σ' H' → N σ' H') → tm x { D with nx := N } σ H1) (k : ∀ σ' H', J σ' H' → tz D σ' H') : tSeq (tMatch te tm) tz D σ H := q_match h fun H1 e => h1 H1 _ e k
end
theorem spansOf_ok {b : List UInt8} {m : Int} {n : Nat} {ss : List (Nat × Nat)} (h : spansOf b m = some (n, ss)) : n ≤ 4096 ∧ areSpans n (iss ss) = true ∧ ((sumS ss : Nat) : Int) = m ∧ mapBlock n ss = b := by
  unfold spansOf at h
  split at h
  · split at h
    · rename_i hh
      cases h
      exact ⟨hh.2.1, hh.2.2.1, hh.2.2.2.1, hh.2.2.2.2⟩
    · cases h
  · cases h
theorem er_cN {σ : L2.St} {H : Hp} {n m : Nat} {sp : Sp} {gV : List V → List V → List V} {E : XK} {t tk : TA} {vs zs : List V} {R : V → Hp → Prop} (h : EvA t σ H vs) (hk : EvA tk σ H zs) (l1 : vs.length = n) (l2 : zs.length = m) (hs : SpR sp (gV vs zs) H R) : Er (tCallN n m sp gV E t tk) σ H R := fun H1 e Q q =>
  h H1 e _ fun H2 e2 => hk H2 (e.trans e2) _ fun H3 e3 => ⟨l1, l2, hs H3 ((e.trans e2).trans e3) Q (fun v H4 e4 r => q v H4 ((e2.trans e3).trans e4) r) E⟩
theorem getD_nmO (o lo : Option (List Nat)) : (lo.map fun t => V.str (SX.S t)).getD (oT o) = oT (nmO o lo) := by cases lo <;> rfl
section
variable {P : Program} {w : World} {K : PySem.W.Frag} {mg : Str → Option Value} {base : Heap}
def spAtHeader (K : PySem.W.Frag) (cs : Cs) : Sp := fun vs H Q _ => ∃ (d : List UInt8) (start at_ : Nat) (a : Addr) (lk ll : Option (List Nat)), vs = [.byt d.toArray, .int (start : Int), .int (at_ : Int), .ref a] ∧ d.length ≤ 10000000 ∧ at_ + 512 ≤ d.length ∧ H a = some (.dK (kvL lk ll)) ∧
  HdrOk (sub d at_ (at_ + 512)) lk ll ∧ ∀ v H', Ex H H' → LookR K cs (atHeader d start at_ lk ll) v H' → Q v H'
theorem sc_at_header : FnScope ["data", "start", "at", "long", "block", "numbers", "kind", "name", "mode", "time", "begin", "size", "end", "found", "target", "member"] ["data", "start", "at", "long"] (defScope (topS 81)) := ⟨rfl, rfl, rfl, by decide +kernel, rfl, by decide +kernel, by decide +kernel⟩
theorem ok_at_header {cs : Cs} (g : GF K mg) (D : D0 K mg "at_header" (topS 81)) (c_Link : MakN P w K mg base 4 "Link" cs.link (spLinkI cs) 2) (c_Symlink : MakN P w K mg base 4 "Symlink" cs.sym (spSymI cs) 2) (c_Directory : MakN P w K mg base 4 "Directory" cs.dir (spDirI cs) 1) (c_sparse2 : CalN P w K mg base 6 "sparse" (spSparse K cs) 3 ["mode", "time"] (fun vs zs => vs ++ zs)) (c_File : MakN P w K mg base 4 "File" cs.file (spFileI cs) 2) (c_target_of : C8.Cal P w K mg base 2 "target_of" (spTargetOf) []) (c_wrong : C8.Cal P w K mg base 1 "wrong" (spWrong K) []) (c_torn : C8.Cal P w K mg base 1 "torn" (spTorn K) []) (c_spans_of : C8.Cal P w K mg base 3 "spans_of" (spSpansOf K) []) (c_name_of : C8.Cal P w K mg base 2 "name_of" (spNameOf) []) (c_kind_of : C8.Cal P w K mg base 2 "kind_of" (spKindOf) []) (c_numbers_of : C8.Cal P w K mg base 3 "numbers_of" (spNumbersOf) [])  : C8.Cal P w K mg base 7 "at_header" (spAtHeader K cs) [] := by
  refine calD D (fun _ _ _ _ _ _ us hl => match us, hl with | [_, _, _, _], _ => rfl) sc_at_header (fun vs H Q E h => by obtain ⟨d, st, a0, al, lk, ll, rfl, hd, ha, hl, ho, q⟩ := h; rfl) fun f cdv A outer s H vs Q E hr h => ?_
  have hu := hr.units
  have hu1 := hu_of hr
  obtain ⟨d, st, a0, al, lk, ll, rfl, hd, ha, hl, ho, q⟩ := h
  refine ⟨_, pss_cons (ps_set (i := 4) sc_at_header.nd rfl (Or.inl rfl) (pe_slice (sl_X (K := K)) (pv 0) (po_some (pv 2)) (po_some (pe_op op_addX (pv 2) (C8.pe_gc rfl g.c_BLOCK)))))
      (pss_cons (ps_par (i := 5) (j := 6) rfl sc_at_header.nd rfl rfl (by decide) rfl rfl (pa_cons (C8.pe_c c_numbers_of hr (by decide) rfl (pa_cons (pv 4) (pa_nil))) (pa_cons (C8.pe_c c_kind_of hr (by decide) rfl (pa_cons (pv 4) (pa_nil))) (pa_nil))) rfl)
      (pss_cons (ps_par3 (i := 7) (j := 8) (l := 9) rfl sc_at_header.nd rfl rfl rfl (by decide) (by decide) (by decide) rfl rfl rfl (pa_cons (pe_dget2 hu1 (pv 3) (pe_str) (C8.pe_c c_name_of hr (by decide) rfl (pa_cons (pv 4) (pa_nil))) ⟨rfl, rfl, rfl, rfl⟩) (pa_cons (pe_dget hu1 (pv 5) (pe_str) (fun _ _ => rfl)) (pa_cons (pe_dget hu1 (pv 5) (pe_str) (fun _ _ => rfl)) (pa_nil)))) rfl)
      (pss_cons (ps_par (i := 10) (j := 11) rfl sc_at_header.nd rfl rfl (by decide) rfl rfl (pa_cons (pe_op op_addX (pv 2) (C8.pe_gc rfl g.c_BLOCK)) (pa_cons (pe_dget hu1 (pv 5) (pe_str) (fun _ _ => rfl)) (pa_nil))) rfl)
      (pss_cons (ps_set (i := 12) sc_at_header.nd rfl (Or.inl rfl) (pe_op op_addX (pv 10) (pe_op op_mulX (pe_op op_divX (pe_op op_sub (pe_op op_addX (pv 11) (C8.pe_gc rfl g.c_BLOCK)) (pe_int)) (C8.pe_gc rfl g.c_BLOCK)) (C8.pe_gc rfl g.c_BLOCK))))
      (pss_cons (ps_set (i := 13) sc_at_header.nd rfl (Or.inl rfl) (pe_non))
      (pss_cons (ps_if (PW.pt (pw_and (pt_cmpR (op_eqX (K := K) hu) (pv 6) (pe_str) (nomark _)) (pw_and1 (pt_cmpR op_ge (pe_callB (cr_lenX (K := K)) rfl g.n_len bo_len (pa_cons (pv 0) (pa_nil))) (pe_op op_addX (pv 10) (C8.pe_gc rfl g.c_BLOCK)) (nomark _))))) (pss_cons (ps_set (i := 13) sc_at_header.nd rfl (Or.inl rfl) (C8.pe_c c_spans_of hr (by decide) rfl (pa_cons (pe_slice (sl_X (K := K)) (pv 0) (po_some (pv 10)) (po_some (pe_op op_addX (pv 10) (C8.pe_gc rfl g.c_BLOCK)))) (pa_cons (pe_op op_sub (pv 11) (C8.pe_gc rfl g.c_BLOCK)) (pa_nil)))))
      (pss_one (ps_if (pt_cmpR op_isN1 (pv 13) (pe_non) (nomark _)) (pss_one (ps_ret (C8.pe_c c_wrong hr (by decide) rfl (pa_cons (pv 2) (pa_cons (pe_str) (pa_nil)))))) (pss_nil)))) (pss_nil))
      (pss_cons (ps_if (pt_cmpR op_lt (pe_callB (cr_lenX (K := K)) rfl g.n_len bo_len (pa_cons (pv 0) (pa_nil))) (pv 12) (nomark _)) (pss_one (ps_ret (C8.pe_c c_torn hr (by decide) rfl (pa_cons (pv 1) (pa_nil))))) (pss_nil))
      (pss_cons (ps_if (pt_cmpR (op_neX (K := K) hu) (pe_slice (sl_X (K := K)) (pv 0) (po_some (pe_op op_addX (pv 10) (pv 11))) (po_some (pv 12))) (pe_callTy call_bytes_n rfl g.n_bytes bo_bytes (pa_cons (pe_op op_sub (pe_op op_sub (pv 12) (pv 10)) (pv 11)) (pa_nil))) (nomark _)) (pss_one (ps_ret (C8.pe_c c_wrong hr (by decide) rfl (pa_cons (pv 2) (pa_cons (pe_str) (pa_nil)))))) (pss_nil))
      (pss_cons (ps_set (i := 14) sc_at_header.nd rfl (Or.inl rfl) (pe_dget2 hu1 (pv 3) (pe_str) (C8.pe_c c_target_of hr (by decide) rfl (pa_cons (pv 4) (pa_nil))) ⟨rfl, rfl, rfl, rfl⟩))
      (pss_cons (ps_match (pv 6) (pm_str (pss_one (ps_set (i := 15) sc_at_header.nd rfl (Or.inl rfl) (pe_mkN c_File hr (by decide) rfl (pa_cons (pv 7) (pa_cons (pe_slice (sl_X (K := K)) (pv 0) (po_some (pv 10)) (po_some (pe_op op_addX (pv 10) (pv 11)))) (pa_nil))) (pk_cons (pv 8) (pk_cons (pv 9) (pk_nil)))))) (pm_str (pss_one (ps_set (i := 15) sc_at_header.nd rfl (Or.inl rfl) (pe_cN c_sparse2 hr (by decide) rfl (pa_cons (pv 7) (pa_cons (pv 13) (pa_cons (pe_slice (sl_X (K := K)) (pv 0) (po_some (pe_op op_addX (pv 10) (C8.pe_gc rfl g.c_BLOCK))) (po_some (pe_op op_addX (pv 10) (pv 11)))) (pa_nil)))) (pk_cons (pv 8) (pk_cons (pv 9) (pk_nil)))))) (pm_str (pss_one (ps_set (i := 15) sc_at_header.nd rfl (Or.inl rfl) (pe_mkN c_Directory hr (by decide) rfl (pa_cons (pv 7) (pa_nil)) (pk_cons (pv 8) (pk_cons (pv 9) (pk_nil)))))) (pm_str (pss_one (ps_set (i := 15) sc_at_header.nd rfl (Or.inl rfl) (pe_mkN c_Symlink hr (by decide) rfl (pa_cons (pv 7) (pa_cons (pv 14) (pa_nil))) (pk_cons (pv 8) (pk_cons (pv 9) (pk_nil)))))) (pm_any (pss_one (ps_set (i := 15) sc_at_header.nd rfl (Or.inl rfl) (pe_mkN c_Link hr (by decide) rfl (pa_cons (pv 7) (pa_cons (pv 14) (pa_nil))) (pk_cons (pv 8) (pk_cons (pv 9) (pk_nil))))))))))))
      (pss_one (ps_ret (pe_tup (pa_cons (pv 15) (pa_cons (pv 12) (pa_cons (pe_non) (pa_nil))))))))))))))))), ?_⟩
  have hz : d.length ≤ 16777216 := by omega
  have hb : (sub d a0 (a0 + 512)).length = 512 := by rw [sub_len]; omega
  have iN : ∀ {x y : Int}, x = y → V.int x = V.int y := fun h => congrArg V.int h
  generalize hbb : sub d a0 (a0 + 512) = b at *
  refine q_asg (v := .byt b.toArray) (by rw [← hbb]; exact ev_slY (ev_var rfl) (eo_n (ev_var rfl)) (eo_n (n := a0 + 512) (ev_is (ev_op (ev_var rfl) ev_c rv_addI) (iN (by omega)))) hz sl_gen) fun H1 e1 => ?_
  refine q_parL (R := fun v H => ∃ p, v = .ref p ∧ H p = some (.dK (numK b))) ((er_numbers (ea_cons (ev_var rfl) ea_nil) hb).imp fun v H2 e2 ⟨p, h1, _, h2⟩ => ⟨p, h1, h2⟩) (fun v H H' e ⟨p, h1, h2⟩ => ⟨p, h1, e _ _ h2⟩) (ev_call (z := .str (SX.S (kindOf b))) (ea_cons (ev_var rfl) ea_nil) (Ret.sp fun H1 e Q E q => ⟨b, rfl, by omega, q⟩)) fun u H2 e2 hp => ?_
  obtain ⟨p, rfl, hp⟩ := hp
  obtain ⟨m, hm, hm2⟩ := ho.mode
  obtain ⟨ti, hti, hti2⟩ := ho.time
  obtain ⟨n, hn, hn1, hn2⟩ := ho.size
  obtain ⟨nm, hnm, hnm2⟩ := ho.name
  have dm : numD b 0 = m := by unfold numD; rw [hm]; rfl
  have dt : numD b 4 = ti := by unfold numD; rw [hti]; rfl
  have dn : numD b 3 = n := by unfold numD; rw [hn]; rfl
  have hsz : n ≤ 4608 := by
    refine Nat.le_trans hn2 ?_
    unfold sizeOf
    split
    · decide
    split
    · decide
    split
    · decide
    split
    · decide
    · decide
  have e12 := e1.trans e2
  have hl2 := e12 _ _ hl
  refine q_par3 (u := .str (SX.S nm)) (v := .int (m : Int)) (w := .int (ti : Int)) (ea_cons (ev_is (ev_dget2 (k := .inr "L") (z := oT (nameOf b)) (ev_var rfl) ev_c (ev_call (ea_cons (ev_var rfl) ea_nil) (Ret.sp fun H1 e Q E q => ⟨b, rfl, by omega, q⟩)) hl2) (by rw [kvL_L, getD_nmO, hnm]; rfl)) (ea_cons (ev_dget (k := .inr "mode") (ev_var rfl) ev_c (.inl hp) (by show some (oI (numAt b 0)) = _; rw [hm]; rfl)) (ea_cons (ev_dget (k := .inr "time") (ev_var rfl) ev_c (.inl hp) (by show some (oI (numAt b 4)) = _; rw [hti]; rfl)) ea_nil))) fun H3 e3 => ?_
  have hp3 := e3 _ _ hp
  refine q_par (v := .int ((a0 + 512 : Nat) : Int)) (u := .int (n : Int)) (ea_cons (ev_is (ev_op (ev_var rfl) ev_c rv_addI) (iN (by omega))) (ea_cons (ev_dget (k := .inr "size") (ev_var rfl) ev_c (.inl hp3) (by show some (oI (numAt b 3)) = _; rw [hn]; rfl)) ea_nil)) fun H4 e4 => ?_
  refine q_asg (v := .int (endAt a0 n : Int)) (ev_is (ev_op (ev_var rfl) (ev_op (ev_op (ev_op (ev_op (ev_var rfl) ev_c rv_addI) ev_c rv_subI) ev_c (rv_divI (wide_div (i := ((n : Int) + 512 - 1)) (j := 512) (b := 10) (by decide) (by decide) (by decide) (by decide)))) ev_c (rv_mulI (wide_mul (i := ((n : Int) + 512 - 1) / 512) (j := 512) (a := 40) (b := 10) (by omega) (by decide) (by decide) (by decide) (by decide)))) rv_addI) (iN (by unfold endAt; omega))) fun H5 e5 => ?_
  refine q_asg (v := .non) ev_c fun H6 e6 => ?_
  have e06 := (((e12.trans e3).trans e4).trans e5).trans e6
  have hln : Ev (tCB (rLenX K) (tCons (tVar 0) tNil)) [some (.byt d.toArray), some (.int (st : Int)), some (.int (a0 : Int)), some (.ref al), some (.byt b.toArray), some (.ref p), some (.str (SX.S (kindOf b))), some (.str (SX.S nm)), some (.int (m : Int)), some (.int (ti : Int)), some (.int ((a0 + 512 : Nat) : Int)), some (.int (n : Int)), some (.int (endAt a0 n : Int)), some .non, none, none] H6 (.int (d.length : Int)) := ev_cb1 (ev_var rfl) (rc_lenY hz)
  have bad : ∀ {σ : L2.St} {H' : Hp} {D : Ends} {t : TE}, D.rt = Q → Ex H H' → σ[2]? = some (some (.int (a0 : Int))) → (∃ x, Ev t σ H' x) → atHeader d st a0 lk ll = .bad a0 → tRet (tCall (spWrong K) [] C8.E0 (tCons (tVar 2) (tCons t tNil))) D σ H' := fun {σ H' D t} hD e h2 ⟨x, hx⟩ hr => by
    refine s_retR (R := BadR K a0) (er_call (ea_cons (ev_var h2) (ea_cons hx ea_nil)) fun H1 e Q q E => ⟨a0, x, rfl, q⟩) fun v H7 e7 hv => ?_
    rw [hD]
    refine q v H7 (e.trans e7) ?_
    rw [hr]
    exact hv
  unfold atHeader at bad q
  rw [hbb, dn] at bad q
  refine q_whenJ (J := fun σ' H' => ∃ f, σ' = [some (.byt d.toArray), some (.int (st : Int)), some (.int (a0 : Int)), some (.ref al), some (.byt b.toArray), some (.ref p), some (.str (SX.S (kindOf b))), some (.str (SX.S nm)), some (.int (m : Int)), some (.int (ti : Int)), some (.int ((a0 + 512 : Nat) : Int)), some (.int (n : Int)), some (.int (endAt a0 n : Int)), some f, none, none] ∧ Ex H6 H' ∧ (kindOf b = [83] ∧ a0 + 512 + 512 ≤ d.length → ∃ ns, spansOf (sub d (a0 + 512) (a0 + 512 + 512)) ((n : Int) - 512) = some ns ∧ SpnR K (some ns) f H')) (b := decide (kindOf b = [83]) && decide (a0 + 512 + 512 ≤ d.length)) (et_and (et_test (ev_op (ev_var rfl) (ev_lit (l := [83]) rfl) rv_eqT)) fun _ => et_is (et_test (ev_op hln (ev_op (ev_var rfl) ev_c rv_addI) rv_ge)) (by rw [decide_eq_decide]; omega)) (fun hb1 H7 N e7 hN => ?_) (fun hb1 H7 e7 => ⟨.non, rfl, e7, fun hh => ?_⟩) fun σ' H7 hJ => ?_
  · rw [Bool.and_eq_true, decide_eq_true_eq, decide_eq_true_eq] at hb1
    refine q_asgR (R := SpnR K (spansOf (sub d (a0 + 512) (a0 + 512 + 512)) ((n : Int) - 512))) (er_call (ea_cons (ev_slY (m := sub d (a0 + 512) (a0 + 512 + 512)) (ev_var rfl) (eo_n (ev_var rfl)) (eo_n (n := a0 + 512 + 512) (ev_is (ev_op (ev_var rfl) ev_c rv_addI) (iN (by omega)))) hz sl_gen) (ea_cons (ev_op (ev_var rfl) ev_c rv_subI) ea_nil)) fun H1 e Q q E => ⟨_, _, rfl, by rw [sub_len]; omega, q⟩) fun f H8 e8 hf => ?_
    cases hS : spansOf (sub d (a0 + 512) (a0 + 512 + 512)) ((n : Int) - 512) with
    | none =>
      rw [hS] at hf
      obtain rfl : f = .non := hf
      exact s_when (b := true) (et_is (et_test (ev_op (ev_var rfl) ev_c rv_isN)) rfl) (fun _ H9 e9 => bad rfl (((e06.trans e7).trans e8).trans e9) rfl ⟨_, ev_c⟩ (if_pos ⟨hb1.1, hb1.2, hS⟩)) fun h => by cases h
    | some ns =>
      rw [hS] at hf
      have hf2 := hf
      obtain ⟨p1, p2, rfl, _, _⟩ := hf2
      exact s_when (b := false) (et_is (et_test (ev_op (ev_var rfl) ev_c rv_isN)) rfl) (fun h => by cases h) fun _ H9 e9 => hN _ _ ⟨_, rfl, (e7.trans e8).trans e9, fun _ => ⟨ns, hS, spnR_sta K _ _ _ _ e9 hf⟩⟩
  · rw [decide_eq_true hh.1, decide_eq_true hh.2] at hb1
    cases hb1
  obtain ⟨f, rfl, e7, hf⟩ := hJ
  have h0 : ¬ (kindOf b = [83] ∧ a0 + 512 + 512 ≤ d.length ∧ spansOf (sub d (a0 + 512) (a0 + 512 + 512)) ((n : Int) - 512) = none) := fun hh => by
    obtain ⟨ns, h1, _⟩ := hf ⟨hh.1, hh.2.1⟩
    rw [h1] at hh
    cases hh.2.2
  rw [if_neg h0] at bad q
  refine q_when (b := decide (d.length < endAt a0 n)) (et_is (et_test (ev_op (ev_cb1 (ev_var rfl) (rc_lenY hz)) (ev_var rfl) rv_lt)) (by rw [decide_eq_decide]; omega)) (fun hb2 H8 e8 => s_retR (R := BadR K st) (er_call (ea_cons (ev_var rfl) ea_nil) fun H1 e Q q E => ⟨st, rfl, q⟩) fun v H9 e9 hv => q v H9 (((e06.trans e7).trans e8).trans e9) ?_) fun hb2 H8 e8 => ?_
  · rw [if_pos (of_decide_eq_true hb2)]
    exact hv
  have hlen : ¬ d.length < endAt a0 n := of_decide_eq_false hb2
  rw [if_neg hlen] at bad q
  have hend : a0 + 512 + n ≤ endAt a0 n := by unfold endAt; omega
  refine q_when (b := !decide (sub d (a0 + 512 + n) (endAt a0 n) = zs (endAt a0 n - (a0 + 512) - n))) (et_test (ev_op (ev_slY (m := sub d (a0 + 512 + n) (endAt a0 n)) (ev_var rfl) (eo_n (n := a0 + 512 + n) (ev_is (ev_op (ev_var rfl) (ev_var rfl) rv_addI) (iN (by omega)))) (eo_n (ev_var rfl)) hz sl_gen) (ev_is (ev_cb1 (ev_is (ev_op (ev_op (ev_var rfl) (ev_var rfl) rv_subI) (ev_var rfl) rv_subI) (iN (show ((endAt a0 n : Int) - ((a0 + 512 : Nat) : Int) - (n : Int)) = ((endAt a0 n - (a0 + 512) - n : Nat) : Int) by omega))) (rc_bytNn (by omega))) rfl) rv_neY)) (fun hb3 H9 e9 => bad rfl (((e06.trans e7).trans e8).trans e9) rfl ⟨_, ev_c⟩ (if_pos (by simpa using hb3))) fun hb3 H9 e9 => ?_
  rw [if_neg (by simpa using hb3)] at q
  have e09 := ((e06.trans e7).trans e8).trans e9
  have e79 := e8.trans e9
  refine q_asg (v := oT (nmO (targetOf b) lk)) (ev_is (ev_dget2 (k := .inr "K") (z := oT (targetOf b)) (ev_var rfl) ev_c (ev_call (ea_cons (ev_var rfl) ea_nil) (Ret.sp fun H1 e Q E q => ⟨b, rfl, by omega, q⟩)) (e09 _ _ hl)) (by rw [kvL_K, getD_nmO])) fun H10 e10 => ?_
  refine q_matchJ (J := fun σ' H' => ∃ v, σ' = [some (.byt d.toArray), some (.int (st : Int)), some (.int (a0 : Int)), some (.ref al), some (.byt b.toArray), some (.ref p), some (.str (SX.S (kindOf b))), some (.str (SX.S nm)), some (.int (m : Int)), some (.int (ti : Int)), some (.int ((a0 + 512 : Nat) : Int)), some (.int (n : Int)), some (.int (endAt a0 n : Int)), some f, some (oT (nmO (targetOf b) lk)), some v] ∧ Ex H10 H' ∧ MemR cs (memOf d b a0 lk ll) v H') (ev_var rfl) (fun H11 N e11 hN => ?_) fun σ' H11 hJ => ?_
  · have hszk : (sizeOf (kindOf b)).2 ≤ 4608 ∧ n ≤ (sizeOf (kindOf b)).2 ∧ (sizeOf (kindOf b)).1 ≤ n := ⟨by
      unfold sizeOf
      split
      · decide
      split
      · decide
      split
      · decide
      split
      · decide
      · decide, hn2, hn1⟩
    have nS : ∀ {x y : List Nat} {s : Str}, s = SX.S y → x ≠ y → SX.S x ≠ s := fun {x y s} e hne h => by
      rw [e] at h
      exact hne (SX.S_inj h)
    unfold memOf at hN
    rw [hnm, dm, dt, dn] at hN
    rcases ho.kind with hk | hk | hk | hk | hk
    · have hn4 : n ≤ 4096 := by rw [hk] at hn2; exact hn2
      rw [if_pos hk] at hN
      refine case_eq (by rw [hk]; rfl) (s_asgR (R := MemR cs (.file nm m ti (sub d (a0 + 512) (a0 + 512 + n)))) (er_mkN (vs := [.str (SX.S nm), .byt (sub d (a0 + 512) (a0 + 512 + n)).toArray]) (zs := [.int (m : Int), .int (ti : Int)]) (ea_cons (ev_var rfl) (ea_cons (ev_slY (ev_var rfl) (eo_n (ev_var rfl)) (eo_n (n := a0 + 512 + n) (ev_is (ev_op (ev_var rfl) (ev_var rfl) rv_addI) (iN (by omega)))) hz sl_gen) ea_nil)) (ea_cons (ev_var rfl) (ea_cons (ev_var rfl) ea_nil)) rfl rfl fun x dx H1 Q hx q => ⟨x, dx, nm, _, m, ti, rfl, hx, hnm2, by rw [sub_len]; omega, hm2, hti2, q⟩) fun v H12 e12 hv => hN _ _ ⟨v, rfl, e11.trans e12, hv⟩)
    · rw [if_neg (by rw [hk]; decide), if_pos hk] at hN
      have hn5 : 512 ≤ n := by rw [hk] at hn1; exact hn1
      have hbig : a0 + 512 + 512 ≤ d.length := by
        unfold endAt at hlen
        omega
      obtain ⟨ns, hS, hf2⟩ := hf ⟨hk, hbig⟩
      obtain ⟨sz, ss⟩ := ns
      have hS2 := hS
      rw [hS] at hN
      obtain ⟨pf, qf, rfl, hf3, hf4⟩ := hf2
      have e711 := (e79.trans e10).trans e11
      have hsp := spansOf_ok hS2
      have hds : (sub d (a0 + 512 + 512) (a0 + 512 + n)).length = n - 512 := by
        rw [sub_len]
        omega
      refine case_ne (nS (y := [48]) rfl (by rw [hk]; decide)) (case_eq (by rw [hk]; rfl) (s_asgR (R := MemR cs (.sparse nm m ti sz (piecesAt ss (sub d (a0 + 512 + 512) (a0 + 512 + n)) 0))) (er_cN (vs := [.str (SX.S nm), .ref pf, .byt (sub d (a0 + 512 + 512) (a0 + 512 + n)).toArray]) (zs := [.int (m : Int), .int (ti : Int)]) (ea_cons (ev_var rfl) (ea_cons (ev_var rfl) (ea_cons (ev_slY (m := sub d (a0 + 512 + 512) (a0 + 512 + n)) (ev_var rfl) (eo_n (n := a0 + 512 + 512) (ev_is (ev_op (ev_var rfl) ev_c rv_addI) (iN (by omega)))) (eo_n (n := a0 + 512 + n) (ev_is (ev_op (ev_var rfl) (ev_var rfl) rv_addI) (iN (by omega)))) hz sl_gen) ea_nil))) (ea_cons (ev_var rfl) (ea_cons (ev_var rfl) ea_nil)) rfl rfl fun H1 e Q q E => ⟨nm, pf, qf, sub d (a0 + 512 + 512) (a0 + 512 + n), m, ti, sz, ss, rfl, ex_t (e711.trans e) hf3, hf4.ex (e711.trans e), by omega, by rw [hds]; omega, hnm2, hsp.1, hsp.2.1, hm2, hti2, q⟩) fun v H12 e12 hv => hN _ _ ⟨v, rfl, e11.trans e12, hv⟩))
    · rw [if_neg (by rw [hk]; decide), if_neg (by rw [hk]; decide), if_pos hk] at hN
      exact case_ne (nS (y := [48]) rfl (by rw [hk]; decide)) (case_ne (nS (y := [83]) rfl (by rw [hk]; decide)) (case_eq (by rw [hk]; rfl) (s_asgR (R := MemR cs (.dir nm m ti)) (er_mkN (vs := [.str (SX.S nm)]) (zs := [.int (m : Int), .int (ti : Int)]) (ea_cons (ev_var rfl) ea_nil) (ea_cons (ev_var rfl) (ea_cons (ev_var rfl) ea_nil)) rfl rfl fun x dx H1 Q hx q => ⟨x, dx, nm, m, ti, rfl, hx, hnm2, hm2, hti2, q⟩) fun v H12 e12 hv => hN _ _ ⟨v, rfl, e11.trans e12, hv⟩)))
    · rw [if_neg (by rw [hk]; decide), if_neg (by rw [hk]; decide), if_neg (by rw [hk]; decide), if_pos hk] at hN
      obtain ⟨tg, ht1, ht2⟩ := ho.target (.inl hk)
      rw [ht1] at hN ⊢
      exact case_ne (nS (y := [48]) rfl (by rw [hk]; decide)) (case_ne (nS (y := [83]) rfl (by rw [hk]; decide)) (case_ne (nS (y := [53]) rfl (by rw [hk]; decide)) (case_eq (by rw [hk]; rfl) (s_asgR (R := MemR cs (.sym nm m ti tg)) (er_mkN (vs := [.str (SX.S nm), .str (SX.S tg)]) (zs := [.int (m : Int), .int (ti : Int)]) (ea_cons (ev_var rfl) (ea_cons (ev_var rfl) ea_nil)) (ea_cons (ev_var rfl) (ea_cons (ev_var rfl) ea_nil)) rfl rfl fun x dx H1 Q hx q => ⟨x, dx, nm, tg, m, ti, rfl, hx, hnm2, ht2, hm2, hti2, q⟩) fun v H12 e12 hv => hN _ _ ⟨v, rfl, e11.trans e12, hv⟩))))
    · rw [if_neg (by rw [hk]; decide), if_neg (by rw [hk]; decide), if_neg (by rw [hk]; decide), if_neg (by rw [hk]; decide)] at hN
      obtain ⟨tg, ht1, ht2⟩ := ho.target (.inr hk)
      rw [ht1] at hN ⊢
      exact case_ne (nS (y := [48]) rfl (by rw [hk]; decide)) (case_ne (nS (y := [83]) rfl (by rw [hk]; decide)) (case_ne (nS (y := [53]) rfl (by rw [hk]; decide)) (case_ne (nS (y := [50]) rfl (by rw [hk]; decide)) (s_asgR (R := MemR cs (.link nm m ti tg)) (er_mkN (vs := [.str (SX.S nm), .str (SX.S tg)]) (zs := [.int (m : Int), .int (ti : Int)]) (ea_cons (ev_var rfl) (ea_cons (ev_var rfl) ea_nil)) (ea_cons (ev_var rfl) (ea_cons (ev_var rfl) ea_nil)) rfl rfl fun x dx H1 Q hx q => ⟨x, dx, nm, tg, m, ti, rfl, hx, hnm2, ht2, hm2, hti2, q⟩) fun v H12 e12 hv => hN _ _ ⟨v, rfl, e11.trans e12, hv⟩))))
  · obtain ⟨v, rfl, e11, hv⟩ := hJ
    refine s_retR (R := LookR K cs (.mem (memOf d b a0 lk ll) (endAt a0 n))) (Er.ofU (eu_tup (ea_cons (ev_var rfl) (ea_cons (ev_var rfl) (ea_cons ev_c ea_nil))) (by simp)) fun p2 H12 hp2 e12 h12 => ⟨p2, v, rfl, st_of h12, memR_sta cs _ _ _ _ e12 hv⟩) fun v2 H12 e12 hv2 => q v2 H12 (((e09.trans e10).trans e11).trans e12) hv2
end
end Tar

/-! TaP18 -/
set_option Elab.async false
set_option linter.all false
set_option maxRecDepth 100000
set_option maxHeartbeats 4000000
/-! defs, 18: look_at -/
namespace Tar
open PySem PySem.Spec PyProof.Rows L2 Evl
def lookAtF : Nat → List UInt8 → Nat → Nat → Option (List Nat) → Option (List Nat) → Look
  | 0, _, st, _, _, _ => .bad st
  | f + 1, d, st, at_, lk, ll =>
    if (sub d at_ (at_ + 512)).length ≠ 512 then .bad st
    else if at_ = st ∧ sub d at_ (at_ + 512) = zs 512 then
      (if (sub d (at_ + 512) (at_ + 1024)).length < 512 then .bad st else if sub d (at_ + 512) (at_ + 1024) = zs 512 then .over (at_ + 1024) else .bad at_)
    else if wrongField (sub d at_ (at_ + 512)) lk ll ≠ none then .bad at_
    else if inT (kindOf (sub d at_ (at_ + 512))) [75, 76] = false then atHeader d st at_ lk ll
    else if (sub d (at_ + 512) (at_ + 1024)).length < 512 then .bad st
    else if isTextOf (textOf (sub d (at_ + 512) (at_ + 1024))) (numD (sub d at_ (at_ + 512)) 3) = false then .bad at_
    else if kindOf (sub d at_ (at_ + 512)) = [75] then lookAtF f d st (at_ + 1024) (textOf (sub d (at_ + 512) (at_ + 1024))) ll
    else lookAtF f d st (at_ + 1024) lk (textOf (sub d (at_ + 512) (at_ + 1024)))
def lookAt (d : List UInt8) (start : Nat) : Look := lookAtF (d.length + 1) d start start none none
def nmL (o : Option (List Nat)) : Prop := ∀ t ∈ o, nmT t = true ∧ 100 < t.length
theorem nmL_len {o : Option (List Nat)} (h : nmL o) : lenO o 1000 := fun t ht => by
  have := (nmT_len (h t ht).1).2
  omega
theorem nmL_none : nmL none := fun t h => by cases h
theorem isText_some {o : Option (List Nat)} {n : Nat} (h : isTextOf o n = true) (h1 : 102 ≤ n) (h2 : n ≤ 251) : ∃ t, o = some t ∧ nmT t = true ∧ 100 < t.length ∧ t.length + 1 = n := by
  cases o with
  | none => cases h
  | some t =>
    unfold isTextOf at h
    rw [Bool.and_eq_true, decide_eq_true_eq] at h
    refine ⟨t, rfl, ?_, by omega, h.1⟩
    unfold nmT
    rw [Bool.and_eq_true, Bool.and_eq_true, decide_eq_true_eq, decide_eq_true_eq]
    exact ⟨⟨by omega, by omega⟩, h.2⟩
theorem kind_long {l : List UInt8} {lk ll : Option (List Nat)} (h : WF l lk ll) (h2 : nmL ll) (hk : inT (kindOf l) [75, 76] = true) : (kindOf l = [75] ∧ lk = none ∧ ll = none) ∨ (kindOf l = [76] ∧ ll = none) := by
  obtain ⟨c, ec, hc, hll, h75, _⟩ := kind_one h.kind
  rw [hk] at hll
  have hLL : nameOf l = some kLL := of_decide_eq_true hll.symm
  have hn : ll = none := by
    cases ll with
    | none => rfl
    | some t =>
      have hn := h.name
      unfold isNameRight at hn
      dsimp only at hn
      have := of_decide_eq_true hn
      rw [hLL] at this
      have e := congrArg List.length (Option.some.inj this)
      rw [List.length_take] at e
      have := (h2 t rfl).2
      have e2 : kLL.length = 13 := rfl
      omega
  rw [ec, inT_one] at hk
  have hk2 : c = 75 ∨ c = 76 := by simpa using hk
  rcases hk2 with e | e
  · subst e
    left
    refine ⟨ec, ?_, hn⟩
    cases lk with
    | none => rfl
    | some t => exact absurd rfl (h75 (.inl rfl))
  · subst e
    exact .inr ⟨ec, hn⟩
section
variable {K : PySem.W.Frag} {σ : L2.St} {H : Hp} {D : Ends} {tz tu u : TS} {te tb : TE}
theorem q_whileLen {i : Nat} (W : Nat → L2.St → Hp → Prop) (m0 : Nat) (h0 : W m0 σ H)
    (hs : ∀ m σ' H', W m σ' H' → ∃ l : List UInt8, l.length ≤ 16777216 ∧ Ev te σ' H' (.byt l.toArray) ∧ Ev tb (σ'.set i (some (.byt l.toArray))) H' (.int 512) ∧
      (l.length = 512 → ∀ H1, Ex H' H1 → ∃ N : L2.St → Hp → Prop, (∀ σ2 H2, N σ2 H2 → ∃ m', m' < m ∧ W m' σ2 H2) ∧ tu { D with nx := N, ct := N, bk := tz D } (σ'.set i (some (.byt l.toArray))) H1) ∧
      (l.length ≠ 512 → ∀ H1, Ex H' H1 → u { D with nx := tz D } (σ'.set i (some (.byt l.toArray))) H1)) : tSeq (tWhileW (wCmp (rEqX K) (wCB (rLenX K) (wNm (wE te) i)) tb) tu u) tz D σ H :=
  ⟨W, ⟨m0, h0⟩, fun m σ' H' hw => by
    obtain ⟨l, hz, h1, h2, h3, h4⟩ := hs m σ' H' hw
    refine h1 H' (Ex.refl _) _ fun H1 e1 => ?_
    refine rc_lenY hz H1 (Ex.refl _) _ fun H2 e2 => h2 H2 (e1.trans e2) _ fun H3 e3 => rv_eqI H3 (Ex.refl _) _ fun H4 e4 => ⟨_, rfl, ?_⟩
    have e14 := ((e1.trans e2).trans e3).trans e4
    by_cases hl : l.length = 512
    · have hb : decide ((l.length : Int) = 512) = true := decide_eq_true (by omega)
      rw [hb]
      exact h3 hl H4 e14
    · have hb : decide ((l.length : Int) = 512) = false := decide_eq_false (by omega)
      rw [hb]
      exact h4 hl H4 e14⟩
theorem q_dput {td ty tv : TE} {a : Addr} {kvs : List (Key × V)} {k : Key} {v : V} (hv : Ev tv σ H v) (hd : Ev td σ H (.ref a)) (hy : Ev ty σ H (kV k)) (h : H a = some (.dK kvs)) (hl : kvs.length < sizeLine) (kk : ∀ H1, Ex H H1 → tz D σ (upd H1 a (.dK (putK kvs k v)))) : tSeq (sDPut td ty tv) tz D σ H :=
  hv H (Ex.refl _) _ fun H1 e1 => hd H1 e1 _ fun H2 e2 => hy H2 (e1.trans e2) _ fun H3 e3 => ⟨a, _, rfl, DPut.k (((e1.trans e2).trans e3) _ _ h) hl, kk H3 ((e1.trans e2).trans e3)⟩
theorem er_dnew : Er tDNewK σ H (fun v H1 => ∃ p, v = .ref p ∧ H p = none ∧ H1 p = some (.dK [])) := fun H1 e Q q p hp => q _ _ (Ex.new hp) ⟨p, rfl, fresh_back e hp, upd_same⟩
end
theorem putK_K (v : List Nat) : putK (kvL none none) (.inr "K") (.str (SX.S v)) = kvL (some v) none := rfl
theorem putK_L (lk : Option (List Nat)) (v : List Nat) : putK (kvL lk none) (.inr "L") (.str (SX.S v)) = kvL lk (some v) := by cases lk <;> rfl
section
variable {P : Program} {w : World} {K : PySem.W.Frag} {mg : Str → Option Value} {base : Heap}
def spLookAt (K : PySem.W.Frag) (cs : Cs) : Sp := fun vs H Q _ => ∃ (d : List UInt8) (start : Nat), vs = [.byt d.toArray, .int (start : Int)] ∧ d.length ≤ 10000000 ∧ ∀ v H', Ex H H' → LookR K cs (lookAt d start) v H' → Q v H'
theorem sc_look_at : FnScope ["data", "start", "at", "long", "block", "behind", "field", "kind", "text"] ["data", "start"] (defScope (topS 82)) := ⟨rfl, rfl, rfl, by decide +kernel, rfl, by decide +kernel, by decide +kernel⟩
theorem ok_look_at {cs : Cs} (g : GF K mg) (D : D0 K mg "look_at" (topS 82)) (c_torn : C8.Cal P w K mg base 1 "torn" (spTorn K) []) (c_wrong : C8.Cal P w K mg base 1 "wrong" (spWrong K) []) (c_is_text_of : C8.Cal P w K mg base 1 "is_text_of" (spIsTextOf) []) (c_numbers_of : C8.Cal P w K mg base 3 "numbers_of" (spNumbersOf) []) (c_text_of : C8.Cal P w K mg base 1 "text_of" (spTextOf) []) (c_at_header : C8.Cal P w K mg base 7 "at_header" (spAtHeader K cs) []) (c_kind_of : C8.Cal P w K mg base 2 "kind_of" (spKindOf) []) (c_wrong_field : C8.Cal P w K mg base 5 "wrong_field" (spWrongField) [])  : C8.Cal P w K mg base 8 "look_at" (spLookAt K cs) [] := by
  refine calD D (fun _ _ _ _ _ _ us hl => match us, hl with | [_, _], _ => rfl) sc_look_at (fun vs H Q E h => by obtain ⟨d, st, rfl, hd, q⟩ := h; rfl) fun f cdv A outer s H vs Q E hr h => ?_
  have hu := hr.units
  have hu1 := hu_of hr
  obtain ⟨d, st, rfl, hd, q⟩ := h
  refine ⟨_, pss_cons (ps_par (i := 2) (j := 3) rfl sc_look_at.nd rfl rfl (by decide) rfl rfl (pa_cons (pv 1) (pa_cons (pe_dnewK) (pa_nil))) rfl)
      (pss_cons (ps_whileW PassesOwn.never (ptw_cmp (op_eqX (K := K) hu) (pew_callB (cr_lenX (K := K)) rfl g.n_len bo_len (pew_named (i := 4) sc_look_at.nd rfl (Or.inl rfl) (pew_of (pe_slice (sl_X (K := K)) (pv 0) (po_some (pv 2)) (po_some (pe_op op_addX (pv 2) (C8.pe_gc rfl g.c_BLOCK))))))) (C8.pe_gc rfl g.c_BLOCK) (nomark _))
      (pss_cons (ps_if (PW.pt (pw_and (pt_cmpR (op_eqX (K := K) hu) (pv 2) (pv 1) (nomark _)) (pw_and1 (pt_cmpR (op_eqX (K := K) hu) (pv 4) (pe_callTy call_bytes_n rfl g.n_bytes bo_bytes (pa_cons (C8.pe_gc rfl g.c_BLOCK) (pa_nil))) (nomark _))))) (pss_cons (ps_set (i := 5) sc_look_at.nd rfl (Or.inl rfl) (pe_slice (sl_X (K := K)) (pv 0) (po_some (pe_op op_addX (pv 2) (C8.pe_gc rfl g.c_BLOCK))) (po_some (pe_op op_addX (pv 2) (pe_op op_mulX (pe_int) (C8.pe_gc rfl g.c_BLOCK))))))
      (pss_cons (ps_if (pt_cmpR op_lt (pe_callB (cr_lenX (K := K)) rfl g.n_len bo_len (pa_cons (pv 5) (pa_nil))) (C8.pe_gc rfl g.c_BLOCK) (nomark _)) (pss_one (ps_ret (C8.pe_c c_torn hr (by decide) rfl (pa_cons (pv 1) (pa_nil))))) (pss_nil))
      (pss_one (ps_ret (pe_ifExp (pt_cmpR (op_eqX (K := K) hu) (pv 5) (pe_callTy call_bytes_n rfl g.n_bytes bo_bytes (pa_cons (C8.pe_gc rfl g.c_BLOCK) (pa_nil))) (nomark _)) (pe_tup (pa_cons (pe_non) (pa_cons (pe_op op_addX (pv 2) (C8.pe_gc rfl g.c_END_SIZE)) (pa_cons (pe_non) (pa_nil))))) (C8.pe_c c_wrong hr (by decide) rfl (pa_cons (pv 2) (pa_cons (pe_str) (pa_nil))))))))) (pss_nil))
      (pss_cons (ps_set (i := 6) sc_look_at.nd rfl (Or.inl rfl) (C8.pe_c c_wrong_field hr (by decide) rfl (pa_cons (pv 4) (pa_cons (pv 3) (pa_nil)))))
      (pss_cons (ps_if (pt_cmpR op_notN1 (pv 6) (pe_non) (nomark _)) (pss_one (ps_ret (C8.pe_c c_wrong hr (by decide) rfl (pa_cons (pv 2) (pa_cons (pv 6) (pa_nil)))))) (pss_nil))
      (pss_cons (ps_set (i := 7) sc_look_at.nd rfl (Or.inl rfl) (C8.pe_c c_kind_of hr (by decide) rfl (pa_cons (pv 4) (pa_nil))))
      (pss_cons (ps_if (pt_cmpR op_niX (pv 7) (pe_str) (by with_unfolding_all rfl)) (pss_one (ps_ret (C8.pe_c c_at_header hr (by decide) rfl (pa_cons (pv 0) (pa_cons (pv 1) (pa_cons (pv 2) (pa_cons (pv 3) (pa_nil)))))))) (pss_nil))
      (pss_cons (ps_set (i := 5) sc_look_at.nd rfl (Or.inl rfl) (pe_slice (sl_X (K := K)) (pv 0) (po_some (pe_op op_addX (pv 2) (C8.pe_gc rfl g.c_BLOCK))) (po_some (pe_op op_addX (pv 2) (pe_op op_mulX (pe_int) (C8.pe_gc rfl g.c_BLOCK))))))
      (pss_cons (ps_if (pt_cmpR op_lt (pe_callB (cr_lenX (K := K)) rfl g.n_len bo_len (pa_cons (pv 5) (pa_nil))) (C8.pe_gc rfl g.c_BLOCK) (nomark _)) (pss_one (ps_ret (C8.pe_c c_torn hr (by decide) rfl (pa_cons (pv 1) (pa_nil))))) (pss_nil))
      (pss_cons (ps_set (i := 8) sc_look_at.nd rfl (Or.inl rfl) (C8.pe_c c_text_of hr (by decide) rfl (pa_cons (pv 5) (pa_nil))))
      (pss_cons (ps_if (pt_not (pt_val (C8.pe_c c_is_text_of hr (by decide) rfl (pa_cons (pv 8) (pa_cons (pe_dget hu1 (C8.pe_c c_numbers_of hr (by decide) rfl (pa_cons (pv 4) (pa_nil))) (pe_str) (fun _ _ => rfl)) (pa_nil)))))) (pss_one (ps_ret (C8.pe_c c_wrong hr (by decide) rfl (pa_cons (pv 2) (pa_cons (pe_str) (pa_nil)))))) (pss_nil))
      (pss_cons (ps_dput hu1 (pv 3) (pv 7) (pv 8) rfl)
      (pss_one (ps_aug (i := 2) sc_look_at.nd rfl (Or.inl rfl) (pe_op op_mulX (pe_int) (C8.pe_gc rfl g.c_BLOCK)) ip_add)))))))))))) pss_nil)
      (pss_one (ps_ret (C8.pe_c c_torn hr (by decide) rfl (pa_cons (pv 1) (pa_nil)))))), ?_⟩
  have hz : d.length ≤ 16777216 := by omega
  have iN : ∀ {x y : Int}, x = y → V.int x = V.int y := fun h => congrArg V.int h
  refine q_parR (v := .int (st : Int)) (ev_var rfl) er_dnew fun u H1 e1 hp => ?_
  obtain ⟨al, rfl, hal, h1⟩ := hp
  refine q_whileLen (K := K) (fun m σ' H' => ∃ (at_ : Nat) (lk ll : Option (List Nat)) (x4 x5 x6 x7 x8 : Option V), σ' = [some (.byt d.toArray), some (.int (st : Int)), some (.int (at_ : Int)), some (.ref al), x4, x5, x6, x7, x8] ∧ Ex H H' ∧ H' al = some (.dK (kvL lk ll)) ∧ nmL lk ∧ nmL ll ∧ d.length + 1 ≤ m + at_ ∧ lookAt d st = lookAtF m d st at_ lk ll) (d.length + 1) ⟨st, none, none, none, none, none, none, none, rfl, e1, h1, nmL_none, nmL_none, Nat.le_add_right _ _, rfl⟩ fun m σ' H' hw => ?_
  obtain ⟨a0, lk, ll, x4, x5, x6, x7, x8, rfl, eH, hdic, hlk, hll, hfu, hlook⟩ := hw
  have hld : ∀ b : List UInt8, (sub d a0 (a0 + 512)) = b → lookAt d st = lookAtF m d st a0 lk ll := fun _ _ => hlook
  refine ⟨sub d a0 (a0 + 512), by rw [sub_len]; omega, ev_slY (ev_var rfl) (eo_n (ev_var rfl)) (eo_n (n := a0 + 512) (ev_is (ev_op (ev_var rfl) ev_c rv_addI) (iN (by omega)))) hz sl_gen, ev_c, fun hl H2 e2 => ?_, fun hl H2 e2 => ?_⟩
  · cases m with
    | zero =>
      rw [sub_len] at hl
      omega
    | succ m =>
    unfold lookAtF at hlook
    rw [if_neg (by simp [hl])] at hlook
    have hat : a0 + 512 ≤ d.length := by rw [sub_len] at hl; omega
    generalize hbb : sub d a0 (a0 + 512) = b at *
    have hdic2 := e2 _ _ hdic
    have eH2 := eH.trans e2
    refine ⟨fun σ2 H3 => ∃ m', m' < m + 1 ∧ ∃ (at_ : Nat) (lk ll : Option (List Nat)) (x4 x5 x6 x7 x8 : Option V), σ2 = [some (.byt d.toArray), some (.int (st : Int)), some (.int (at_ : Int)), some (.ref al), x4, x5, x6, x7, x8] ∧ Ex H H3 ∧ H3 al = some (.dK (kvL lk ll)) ∧ nmL lk ∧ nmL ll ∧ d.length + 1 ≤ m' + at_ ∧ lookAt d st = lookAtF m' d st at_ lk ll, fun σ2 H3 ⟨m', hm', h⟩ => ⟨m', hm', h⟩, ?_⟩
    have fin : ∀ {n : Nat} {v : V} {H3 : Hp}, Ex H2 H3 → lookAt d st = .bad n → BadR K n v H3 → Q v H3 := fun {n v H3} e h hv => q v H3 (eH2.trans e) (by rw [h]; exact hv)
    have tornR : ∀ {σ : L2.St} {H' : Hp} {D : Ends}, D.rt = Q → Ex H2 H' → σ[1]? = some (some (.int (st : Int))) → lookAt d st = .bad st → tRet (tCall (spTorn K) [] C8.E0 (tCons (tVar 1) tNil)) D σ H' := fun {σ H' D} hD e h1 h => by
      refine s_retR (R := BadR K st) (er_call (ea_cons (ev_var h1) ea_nil) fun H1 e Q q E => ⟨st, rfl, q⟩) fun v H7 e7 hv => ?_
      rw [hD]
      exact fin (e.trans e7) h hv
    have wrongR : ∀ {σ : L2.St} {H' : Hp} {t : TE}, σ[2]? = some (some (.int (a0 : Int))) → (∃ x, Ev t σ H' x) → Er (tCall (spWrong K) [] C8.E0 (tCons (tVar 2) (tCons t tNil))) σ H' (BadR K a0) := fun {σ H' t} h2 ⟨x, hx⟩ => er_call (ea_cons (ev_var h2) (ea_cons hx ea_nil)) fun H1 e Q q E => ⟨a0, x, rfl, q⟩
    have e2B : ∀ {σ : L2.St} {H' : Hp}, σ[2]? = some (some (.int (a0 : Int))) → Ev (tOp rAddX (tVar 2) (tOp rMulX (tC (.int 2)) (tC (.int 512)))) σ H' (.int ((a0 + 1024 : Nat) : Int)) := fun {σ H'} h2 => ev_is (ev_op (ev_var h2) (ev_op ev_c ev_c (rv_mulI (wide_mul (i := 2) (j := 512) (a := 10) (b := 10) (by decide) (by decide) (by decide) (by decide) (by decide)))) rv_addI) (iN (by omega))
    have ebeh : ∀ {σ : L2.St} {H' : Hp}, σ[0]? = some (some (.byt d.toArray)) → σ[2]? = some (some (.int (a0 : Int))) → Ev (tSl (rSlX K) (tVar 0) (tPart (tOp rAddX (tVar 2) (tC (.int 512)))) (tPart (tOp rAddX (tVar 2) (tOp rMulX (tC (.int 2)) (tC (.int 512)))))) σ H' (.byt (sub d (a0 + 512) (a0 + 1024)).toArray) := fun {σ H'} h0 h2 => ev_slY (ev_var h0) (eo_n (n := a0 + 512) (ev_is (ev_op (ev_var h2) ev_c rv_addI) (iN (by omega)))) (eo_n (e2B h2)) hz sl_gen
    have hbl : (sub d (a0 + 512) (a0 + 1024)).length ≤ 512 := by rw [sub_len]; omega
    refine q_when (b := decide (a0 = st ∧ b = zs 512)) (et_is (et_and (et_test (ev_op (ev_var rfl) (ev_var rfl) rv_eqI)) fun _ => et_test (ev_op (ev_var rfl) (ev_cb1 ev_c (rc_bytNn (n := 512) (by omega))) rv_eqY)) (by rw [Bool.decide_and]; congr 1; rw [decide_eq_decide]; omega)) (fun hb1 H3 e3 => ?_) fun hb1 H3 e3 => ?_
    · have hb1' := of_decide_eq_true hb1
      rw [if_pos hb1'] at hlook
      refine q_asg (v := .byt (sub d (a0 + 512) (a0 + 1024)).toArray) (ebeh rfl rfl) fun H4 e4 => ?_
      refine q_when (b := decide ((sub d (a0 + 512) (a0 + 1024)).length < 512)) (et_is (et_test (ev_op (ev_cb1 (ev_var rfl) (rc_lenY (by omega))) ev_c rv_lt)) (by rw [decide_eq_decide]; omega)) (fun hb2 H5 e5 => tornR rfl ((e3.trans e4).trans e5) rfl ?_) fun hb2 H5 e5 => ?_
      · rw [hlook, if_pos (of_decide_eq_true hb2)]
      · rw [if_neg (of_decide_eq_false hb2)] at hlook
        refine s_retR (R := LookR K cs (lookAt d st)) (er_if (b := decide (sub d (a0 + 512) (a0 + 1024) = zs 512)) (et_test (ev_op (ev_var rfl) (ev_cb1 ev_c (rc_bytNn (n := 512) (by omega))) rv_eqY)) (fun hb3 => ?_) (fun hb3 => ?_)) fun v H6 e6 hv => q v H6 ((((eH2.trans e3).trans e4).trans e5).trans e6) hv
        · rw [hlook, if_pos (of_decide_eq_true hb3)]
          exact Er.ofU (eu_tup (ea_cons ev_c (ea_cons (ev_is (ev_op (ev_var rfl) ev_c rv_addI) (iN (show ((a0 : Int) + 1024) = ((a0 + 1024 : Nat) : Int) by omega))) (ea_cons ev_c ea_nil))) (by simp)) fun p2 H7 hp2 e7 h7 => ⟨p2, rfl, st_of h7⟩
        · rw [hlook, if_neg (of_decide_eq_false hb3)]
          exact wrongR rfl ⟨_, ev_c⟩
    · have hb1' := of_decide_eq_false hb1
      rw [if_neg hb1'] at hlook
      have hdic3 := e3 _ _ hdic2
      refine q_asg (v := oS (wrongField b lk ll)) (ev_call (ea_cons (ev_var rfl) (ea_cons (ev_var rfl) ea_nil)) fun H1 e Q q E => ⟨b, al, lk, ll, rfl, hl, e _ _ hdic3, nmL_len hlk, nmL_len hll, q⟩) fun H4 e4 => ?_
      refine q_when (b := decide (wrongField b lk ll ≠ none)) (et_is (et_test (ev_op (ev_var rfl) ev_c rv_notN)) (by cases wrongField b lk ll <;> rfl)) (fun hb2 H5 e5 => s_retR (wrongR rfl ⟨_, ev_var rfl⟩) fun v H6 e6 hv => fin (((e3.trans e4).trans e5).trans e6) ?_ hv) fun hb2 H5 e5 => ?_
      · rw [hlook, if_pos (of_decide_eq_true hb2)]
      · have hwf : wrongField b lk ll = none := by
          have := of_decide_eq_false hb2
          cases h : wrongField b lk ll with
          | none => rfl
          | some f => rw [h] at this; exact absurd (fun h => by cases h) this
        rw [if_neg (of_decide_eq_false hb2)] at hlook
        have wf := wf_of hwf
        refine q_asg (v := .str (SX.S (kindOf b))) (ev_call (ea_cons (ev_var rfl) ea_nil) (Ret.sp fun H1 e Q E q => ⟨b, rfl, by omega, q⟩)) fun H6 e6 => ?_
        have e36 := ((e3.trans e4).trans e5).trans e6
        refine q_when (b := !inT (kindOf b) [75, 76]) (et_test (ev_op (ev_var rfl) (ev_lit (l := [75, 76]) rfl) rv_niT)) (fun hb3 H7 e7 => ?_) fun hb3 H7 e7 => ?_
        · have hb3' : inT (kindOf b) [75, 76] = false := by simpa using hb3
          rw [if_pos hb3'] at hlook
          refine s_retR (R := LookR K cs (lookAt d st)) (er_call (ea_cons (ev_var rfl) (ea_cons (ev_var rfl) (ea_cons (ev_var rfl) (ea_cons (ev_var rfl) ea_nil)))) fun H1 e Q q E => ⟨d, st, a0, al, lk, ll, rfl, hd, hat, e _ _ (e7 _ _ (e36 _ _ hdic2)), by rw [hbb]; exact hdr_ok wf hb3' (fun t h => (hlk t h).1) (fun t h => (hll t h).1), by rw [← hlook]; exact q⟩) fun v H8 e8 hv => q v H8 (((eH2.trans e36).trans e7).trans e8) hv
        · have hb3' : inT (kindOf b) [75, 76] = true := by simpa using hb3
          rw [if_neg (by rw [hb3']; decide)] at hlook
          refine q_asg (v := .byt (sub d (a0 + 512) (a0 + 1024)).toArray) (ebeh rfl rfl) fun H8 e8 => ?_
          refine q_when (b := decide ((sub d (a0 + 512) (a0 + 1024)).length < 512)) (et_is (et_test (ev_op (ev_cb1 (ev_var rfl) (rc_lenY (by omega))) ev_c rv_lt)) (by rw [decide_eq_decide]; omega)) (fun hb4 H9 e9 => tornR rfl (((e36.trans e7).trans e8).trans e9) rfl ?_) fun hb4 H9 e9 => ?_
          · rw [hlook, if_pos (of_decide_eq_true hb4)]
          · rw [if_neg (of_decide_eq_false hb4)] at hlook
            refine q_asg (v := oT (textOf (sub d (a0 + 512) (a0 + 1024)))) (ev_call (ea_cons (ev_var rfl) ea_nil) (Ret.sp fun H1 e Q E q => ⟨_, rfl, by omega, q⟩)) fun H10 e10 => ?_
            obtain ⟨n, hn, hn1, hn2⟩ := wf.size
            have dn : numD b 3 = n := by unfold numD; rw [hn]; rfl
            rw [dn] at hlook
            have e210 := (((e36.trans e7).trans e8).trans e9).trans e10
            refine q_when (b := !isTextOf (textOf (sub d (a0 + 512) (a0 + 1024))) n) (et_not (et_B (ev_call (z := .bl (isTextOf (textOf (sub d (a0 + 512) (a0 + 1024))) n)) (ea_cons (ev_var rfl) (ea_cons (ev_dgetR (R := fun _ _ => True) (k := .inr "size") (er_numbers (ea_cons (ev_var rfl) ea_nil) hl) (fun _ _ => ev_c) (show valV (numK b) (.inr "size") = some (.int (n : Int)) from by show some (oI (numAt b 3)) = _; rw [hn]; rfl)) ea_nil)) (Ret.sp fun H1 e Q E q => ⟨_, n, rfl, fun x hx => by have := textOf_len (show textOf (sub d (a0 + 512) (a0 + 1024)) = some x from hx); omega, q⟩)))) (fun hb5 H11 e11 => s_retR (wrongR rfl ⟨_, ev_c⟩) fun v H12 e12 hv => fin ((e210.trans e11).trans e12) ?_ hv) fun hb5 H11 e11 => ?_
            · rw [hlook, if_pos (by simpa using hb5)]
            · have hb5' : isTextOf (textOf (sub d (a0 + 512) (a0 + 1024))) n = true := by simpa using hb5
              rw [if_neg (by rw [hb5']; decide)] at hlook
              have hdic11 := e11 _ _ (e210 _ _ hdic2)
              have hkl := kind_long wf hll hb3'
              have hrange : 102 ≤ n ∧ n ≤ 251 := by
                rcases hkl with h | h
                · rw [h.1] at hn1 hn2
                  exact ⟨hn1, hn2⟩
                · rw [h.1] at hn1 hn2
                  exact ⟨hn1, hn2⟩
              obtain ⟨t, ht, ht1, ht2, _⟩ := isText_some hb5' hrange.1 hrange.2
              have hnmt : nmL (some t) := fun x hx => by cases hx; exact ⟨ht1, ht2⟩
              rw [ht] at hlook ⊢
              have hput : ∃ lk' ll', putK (kvL lk ll) (.inr (SX.S (kindOf b))) (.str (SX.S t)) = kvL lk' ll' ∧ nmL lk' ∧ nmL ll' ∧ lookAt d st = lookAtF m d st (a0 + 1024) lk' ll' := by
                rcases hkl with ⟨h1, h2, h3⟩ | ⟨h1, h2⟩
                · subst h2 h3
                  rw [if_pos h1] at hlook
                  exact ⟨some t, none, by rw [h1]; rfl, hnmt, nmL_none, hlook⟩
                · subst h2
                  rw [if_neg (by rw [h1]; decide)] at hlook
                  exact ⟨lk, some t, by rw [h1]; exact putK_L lk t, hlk, hnmt, hlook⟩
              obtain ⟨lk', ll', hp1, hp2, hp3, hp4⟩ := hput
              refine q_dput (v := .str (SX.S t)) (k := .inr (SX.S (kindOf b))) (ev_var rfl) (ev_var rfl) (ev_var rfl) hdic11 (by cases lk <;> cases ll <;> (rw [sizeLine_eq]; exact (by decide : (2 : Nat) < 16777216) |> Nat.lt_of_le_of_lt (by simp [kvL]))) fun H14 e1114 => ?_
              rw [hp1]
              refine s_aug (a := (a0 : Int)) (b := 1024) rfl (ev_is (ev_op ev_c ev_c (rv_mulI (wide_mul (i := 2) (j := 512) (a := 10) (b := 10) (by decide) (by decide) (by decide) (by decide) (by decide)))) (iN (by decide))) fun H15 e15 => ⟨m, Nat.lt_succ_self m, a0 + 1024, lk', ll', _, _, _, _, _, rfl, ?_, e15 _ _ upd_same, hp2, hp3, by omega, hp4⟩
              have hal0 : H al = none := fresh_back (Ex.refl _) hal
              exact fun a o ho => e15 _ _ (by rw [upd_ne (ne_of_none ho hal0)]; exact e1114 _ _ (e11 _ _ (e210 _ _ (eH2 _ _ ho))))
  · have hb : lookAt d st = .bad st := by
      rw [hlook]
      cases m with
      | zero => rfl
      | succ m =>
        unfold lookAtF
        rw [if_pos hl]
    refine s_retR (R := BadR K st) (er_call (ea_cons (ev_var rfl) ea_nil) fun H1 e Q q E => ⟨st, rfl, q⟩) fun v H7 e7 hv => q v H7 ((eH.trans e2).trans e7) ?_
    rw [hb]
    exact hv
end
end Tar

/-! TaP19 -/
set_option Elab.async false
set_option linter.all false
set_option maxRecDepth 100000
set_option maxHeartbeats 4000000
/-! defs, 19: scan -/
namespace Tar
open PySem PySem.Spec PyProof.Rows L2 Evl
theorem atHeader_mem {d : List UInt8} {st a e : Nat} {lk ll : Option (List Nat)} {m : Mem} (h : atHeader d st a lk ll = .mem m e) : a + 512 ≤ e ∧ e ≤ d.length ∧ e = endAt a (numD (sub d a (a + 512)) 3) ∧ m = memOf d (sub d a (a + 512)) a lk ll ∧
    sub d (a + 512 + numD (sub d a (a + 512)) 3) e = zs (e - (a + 512) - numD (sub d a (a + 512)) 3) ∧ (kindOf (sub d a (a + 512)) = [83] → a + 512 + 512 ≤ d.length → spansOf (sub d (a + 512) (a + 512 + 512)) ((numD (sub d a (a + 512)) 3 : Nat) - 512 : Int) ≠ none) := by
  unfold atHeader at h
  split at h
  · cases h
  rename_i h1
  split at h
  · cases h
  rename_i h2
  split at h
  · cases h
  rename_i h3
  cases h
  refine ⟨by unfold endAt; omega, by omega, rfl, rfl, by simpa using h3, fun hk hl hn => h1 ⟨hk, hl, hn⟩⟩
theorem lookAtF_mem : ∀ (f : Nat) {d : List UInt8} {st a e : Nat} {lk ll : Option (List Nat)} {m : Mem}, lookAtF f d st a lk ll = .mem m e → a + 512 ≤ e ∧ e ≤ d.length
  | 0, d, st, a, e, lk, ll, m, h => by cases h
  | f + 1, d, st, a, e, lk, ll, m, h => by
    unfold lookAtF at h
    split at h
    · cases h
    split at h
    · split at h
      · cases h
      split at h
      · cases h
      · cases h
    split at h
    · cases h
    split at h
    · have := atHeader_mem h
      exact ⟨this.1, this.2.1⟩
    split at h
    · cases h
    split at h
    · cases h
    split at h
    · have := lookAtF_mem f h
      omega
    · have := lookAtF_mem f h
      omega
theorem lookAt_mem {d : List UInt8} {st e : Nat} {m : Mem} (h : lookAt d st = .mem m e) : st + 512 ≤ e ∧ e ≤ d.length := lookAtF_mem _ h
/-- what scan finds: the members with their offsets, the trouble's offset -/
def scanF : Nat → List UInt8 → Nat → List (Nat × Mem) × Option Nat
  | 0, _, a => ([], some a)
  | f + 1, d, a => match lookAt d a with
    | .mem m e => ((a, m) :: (scanF f d e).1, (scanF f d e).2)
    | .over _ => ([], none)
    | .bad n => ([], some n)
def scanOf (d : List UInt8) : List (Nat × Mem) × Option Nat := scanF (d.length + 1) d 0
theorem memR_exB {cs : Cs} {m : Mem} {v : V} {H H' : Hp} {l : Addr} {us : List V} (hl : H l = some (.lst us)) (e : ExB l H H') (h : MemR cs m v H) : MemR cs m v H' := by
  have nl : ∀ {a : Addr} {o : HO}, H a = some o → (∀ xs, o ≠ .lst xs) → H' a = some o := fun {a o} ha ho => e a o (fun q => by rw [q, hl] at ha; exact ho us (Option.some.inj ha).symm) ha
  obtain ⟨x, dx, key, p, h1, h2, h3, h4⟩ := h
  refine ⟨x, dx, key, p, h1, nl h2 (fun xs h => by cases h), nl h3 (fun xs h => by cases h), ?_⟩
  cases m with
  | sparse a b c n ps =>
    obtain ⟨as, g1, g2, g3⟩ := h4
    exact ⟨as, nl g1 (fun xs h => by cases h), g2, fun i p z hp hz => nl (g3 i p z hp hz) (fun xs h => by cases h)⟩
  | file => exact True.intro
  | dir => exact True.intro
  | sym => exact True.intro
  | link => exact True.intro
/-- the found pairs (offset, member) -/
def FndI (cs : Cs) (H : Hp) (as : List Addr) (fs : List (Nat × Mem)) : Prop := as.length = fs.length ∧ ∀ (i : Nat) (p : Addr) (z : Nat × Mem), as[i]? = some p → fs[i]? = some z → ∃ u, H p = some (.tup [.int (z.1 : Int), u]) ∧ MemR cs z.2 u H
theorem FndI.ex {cs : Cs} {H H' : Hp} {as : List Addr} {fs : List (Nat × Mem)} (e : Ex H H') (h : FndI cs H as fs) : FndI cs H' as fs := ⟨h.1, fun i p z hp hz => by
  obtain ⟨u, h1, h2⟩ := h.2 i p z hp hz
  exact ⟨u, e _ _ h1, memR_sta cs _ _ _ _ e h2⟩⟩
theorem FndI.exB {cs : Cs} {H H' : Hp} {as : List Addr} {fs : List (Nat × Mem)} {l : Addr} {us : List V} (hl : H l = some (.lst us)) (e : ExB l H H') (h : FndI cs H as fs) : FndI cs H' as fs := ⟨h.1, fun i p z hp hz => by
  obtain ⟨u, h1, h2⟩ := h.2 i p z hp hz
  exact ⟨u, e _ _ (fun q => by rw [q, hl] at h1; cases h1) h1, memR_exB hl e h2⟩⟩
theorem FndI.snoc {cs : Cs} {H : Hp} {as : List Addr} {fs : List (Nat × Mem)} {p : Addr} {a : Nat} {m : Mem} {u : V} (h : FndI cs H as fs) (hp : H p = some (.tup [.int (a : Int), u])) (hm : MemR cs m u H) : FndI cs H (as ++ [p]) (fs ++ [(a, m)]) := by
  refine ⟨by simp [h.1], fun i q z hi hz => ?_⟩
  by_cases hlt : i < as.length
  · rw [List.getElem?_append_left hlt] at hi
    rw [List.getElem?_append_left (by have := h.1; omega)] at hz
    exact h.2 i q z hi hz
  · have h1 := h.1
    rw [List.getElem?_append_right (by omega)] at hi hz
    have h0 : i - as.length = 0 := by
      have := (List.getElem?_eq_some_iff.mp hi).1
      simp at this
      omega
    rw [h0] at hi
    rw [← h.1, h0] at hz
    cases hi
    cases hz
    exact ⟨u, hp, hm⟩
def TroR (K : PySem.W.Frag) (o : Option Nat) (t : V) (H : Hp) : Prop := match o with
  | none => t = .non
  | some n => ∃ q s xs, t = .ref q ∧ SqT K H q (s :: .int (n : Int) :: xs)
def ScanR (K : PySem.W.Frag) (cs : Cs) (r : List (Nat × Mem) × Option Nat) : V → Hp → Prop := fun v H => ∃ p l t as, v = .ref p ∧ H p = some (.tup [.ref l, t]) ∧ H l = some (.lst (as.map V.ref)) ∧ FndI cs H as r.1 ∧ TroR K r.2 t H
section
variable {K : PySem.W.Frag} {σ : L2.St} {H : Hp} {D : Ends} {tz tu u : TS} {te tb : TE}
theorem q_asgP3 {i j l : Nat} {R : V → V → V → Hp → Prop} (h : Er te σ H (fun v H1 => ∃ p x y z, v = .ref p ∧ SqT K H1 p [x, y, z] ∧ R x y z H1)) (k : ∀ x y z H1, Ex H H1 → R x y z H1 → tz D (((σ.set i (some x)).set j (some y)).set l (some z)) H1) : tSeq (tAsg te (gTup K 3 (gCons (gName i) (gCons (gName j) (gCons (gName l) gNil))))) tz D σ H := h H (Ex.refl _) _ fun v H1 e hp => by
  obtain ⟨p, x, y, z, rfl, h1, hr⟩ := hp
  exact ⟨p, _, rfl, h1, rfl, _, _, rfl, _, _, rfl, _, _, rfl, rfl, k x y z H1 e hr⟩
theorem s_whileT (W : Nat → L2.St → Hp → Prop) (m0 : Nat) (h0 : W m0 σ H)
    (hs : ∀ m σ' H', W m σ' H' → ∀ H1, Ex H' H1 → ∃ N : L2.St → Hp → Prop, (∀ σ2 H2, N σ2 H2 → ∃ m', m' < m ∧ W m' σ2 H2) ∧ tu { D with nx := N, ct := N, bk := D.nx } σ' H1) : tWhile (tB fun σ H Q => Q (.bl true) H) tu D σ H :=
  s_while W m0 h0 fun m σ' H' hw => ⟨true, et_B fun H1 e Q q => q H1 (Ex.refl _), fun _ H1 e => hs m σ' H' hw H1 e, fun h => by cases h⟩
end
section
variable {P : Program} {w : World} {K : PySem.W.Frag} {mg : Str → Option Value} {base : Heap}
def spScan (K : PySem.W.Frag) (cs : Cs) : Sp := fun vs H Q _ => ∃ d : List UInt8, vs = [.byt d.toArray, .int 0] ∧ d.length ≤ 100000 ∧ ∀ v H', Ex H H' → ScanR K cs (scanOf d) v H' → Q v H'
theorem sc_scan : FnScope ["data", "offset", "found", "trouble", "at", "member", "end"] ["data", "offset"] (defScope (topS 83)) := ⟨rfl, rfl, rfl, by decide +kernel, rfl, by decide +kernel, by decide +kernel⟩
theorem body_scan {cs : Cs} (g : GF K mg) (c_look_data : C8.Cal P w K mg base 1 "look_data" (spLookData) []) (c_is_within : C8.Cal P w K mg base 2 "is_within" (spIsWithin) []) (c_look_at : C8.Cal P w K mg base 8 "look_at" (spLookAt K cs) []) (f : Addr) (cdv : Value) (A : Around) (outer : List Env) (s : Shared) (H : Hp) (vs : List V) (Q : VK) (E : XK) (hr : Room 8 (A.deeper (envOfC "scan" (defScope (topS 83)) s.heap.objs.size f cdv))) (h : spScan K cs vs H Q E) :
      ∃ t, PSs (cxOf C8.CX0 P w K mg base ["data", "offset", "found", "trouble", "at", "member", "end"] "scan" (defScope (topS 83)) f cdv A outer s H E).nox (defBody (topS 83)) t ∧ t { nx := fun _ H' => Q .non H', rt := Q } (start ["data", "offset", "found", "trouble", "at", "member", "end"] vs) H := by
  have hu := hr.units
  have hu1 := hu_of hr
  obtain ⟨d, rfl, hd, q⟩ := h
  refine ⟨_, pss_cons (ps_expr (C8.pe_c c_look_data hr (by decide) rfl (pa_cons (pv 0) (pa_nil))))
      (pss_cons (ps_if (pt_not (pt_val (C8.pe_c c_is_within hr (by decide) rfl (pa_cons (pv 1) (pa_cons (pe_int) (pa_cons (pe_callB (cr_lenX (K := K)) rfl g.n_len bo_len (pa_cons (pv 0) (pa_nil))) (pa_nil))))))) (pss_never) (pss_nil))
      (pss_cons (ps_par3 (i := 2) (j := 3) (l := 4) rfl sc_scan.nd rfl rfl rfl (by decide) (by decide) (by decide) rfl rfl rfl (pa_cons (pe_lst (pa_nil)) (pa_cons (pe_non) (pa_cons (pv 1) (pa_nil)))) rfl)
      (pss_one (ps_while PassesOwn.never (pt_val (pe_bl))
      (pss_cons (ps_asg (C8.pe_c c_look_at hr (by decide) rfl (pa_cons (pv 0) (pa_cons (pv 4) (pa_nil)))) (pg_tupK (K := K) (n := 3) rfl (pgs_cons (pg_name (i := 5) sc_scan.nd rfl (Or.inl rfl)) (pgs_cons (pg_name (i := 6) sc_scan.nd rfl (Or.inl rfl)) (pgs_cons (pg_name (i := 3) sc_scan.nd rfl (Or.inl rfl)) (pgs_nil))))))
      (pss_cons (ps_if (pt_cmpR op_isN1 (pv 5) (pe_non) (nomark _)) (pss_one (ps_ret (pe_tup (pa_cons (pv 2) (pa_cons (pv 3) (pa_nil)))))) (pss_nil))
      (pss_cons (ps_expr (pe_bm PySem.F.plainAttrs_list PySem.F.slot_list_append PySem.F.type_list_append mt_append (pv 2) (pa_cons (pe_tup (pa_cons (pv 4) (pa_cons (pv 5) (pa_nil)))) (pa_nil))))
      (pss_one (ps_set (i := 4) sc_scan.nd rfl (Or.inl rfl) (pv 6)))))))))), ?_⟩
  have hz : d.length ≤ 16777216 := by omega
  refine q_drop (ev_call (ea_cons (ev_var rfl) ea_nil) (Ret.sp fun H1 e Q E q => ⟨d, rfl, q⟩)) fun H1 e1 => ?_
  refine q_when (b := false) (et_is (et_not (et_B (ev_call (ea_cons (ev_var rfl) (ea_cons ev_c (ea_cons (ev_cb1 (ev_var rfl) (rc_lenY hz)) ea_nil))) (Ret.sp fun H1 e Q E q => ⟨_, _, _, rfl, q⟩)))) (by simp)) (fun h => by cases h) fun _ H2 e2 => ?_
  have e12 := e1.trans e2
  refine ⟨by rw [sizeLine_eq]; decide, fun l hl => ⟨.int 0, rfl, _, _, _, rfl, ?_⟩⟩
  have hl0 : H l = none := fresh_back e12 hl
  refine s_whileT (fun m σ' H' => ∃ (a : Nat) (x3 x5 x6 : Option V) (as : List Addr) (fs : List (Nat × Mem)), σ' = [some (.byt d.toArray), some (.int 0), some (.ref l), x3, some (.int (a : Int)), x5, x6] ∧ Ex H H' ∧ H' l = some (.lst (as.map V.ref)) ∧ FndI cs H' as fs ∧ fs.length * 512 ≤ a ∧ a ≤ d.length ∧ d.length + 1 ≤ m + a ∧ scanOf d = (fs ++ (scanF m d a).1, (scanF m d a).2)) (d.length + 1)
    ⟨0, _, _, _, [], [], rfl, e12.trans (Ex.new hl), upd_same, ⟨rfl, fun i p z hp => by cases hp⟩, Nat.zero_le _, Nat.zero_le _, Nat.le_refl _, rfl⟩ fun m σ' H' hw H3 e3 => ?_
  obtain ⟨a, x3, x5, x6, as, fs, rfl, eH, hlst, hfn, hcnt, hle, hfu, hsc⟩ := hw
  cases m with
  | zero => omega
  | succ m =>
    refine ⟨fun σ2 H2 => ∃ m', m' < m + 1 ∧ ∃ (a : Nat) (x3 x5 x6 : Option V) (as : List Addr) (fs : List (Nat × Mem)), σ2 = [some (.byt d.toArray), some (.int 0), some (.ref l), x3, some (.int (a : Int)), x5, x6] ∧ Ex H H2 ∧ H2 l = some (.lst (as.map V.ref)) ∧ FndI cs H2 as fs ∧ fs.length * 512 ≤ a ∧ a ≤ d.length ∧ d.length + 1 ≤ m' + a ∧ scanOf d = (fs ++ (scanF m' d a).1, (scanF m' d a).2), fun σ2 H2 ⟨m', hm', h⟩ => ⟨m', hm', h⟩, ?_⟩
    unfold scanF at hsc
    refine q_asgP3 (R := fun x y z H => match lookAt d a with
      | .mem m e => MemR cs m x H ∧ y = .int (e : Int) ∧ z = .non
      | .over e => x = .non ∧ z = .non
      | .bad n => x = .non ∧ TroR K (some n) z H) ((er_call (R := LookR K cs (lookAt d a)) (ea_cons (ev_var rfl) (ea_cons (ev_var rfl) ea_nil)) fun H1 e Q q E => ⟨d, a, rfl, by omega, q⟩).imp fun v H4 e4 hv => ?_) fun x y z H4 e4 hr => ?_
    · cases hL : lookAt d a with
      | mem m2 e5 =>
        rw [hL] at hv
        obtain ⟨p, u, rfl, h1, h2⟩ := hv
        exact ⟨p, _, _, _, rfl, h1, h2, rfl, rfl⟩
      | over n =>
        rw [hL] at hv
        obtain ⟨p, rfl, h1⟩ := hv
        exact ⟨p, _, _, _, rfl, h1, rfl, rfl⟩
      | bad n =>
        rw [hL] at hv
        obtain ⟨p, qq, s0, xs, rfl, h1, h2⟩ := hv
        exact ⟨p, _, _, _, rfl, h1, rfl, qq, s0, xs, rfl, h2⟩
    · have eH4 := (eH.trans e3).trans e4
      have hlst4 := (e3.trans e4) _ _ hlst
      have hfn4 := hfn.ex (e3.trans e4)
      have ret : ∀ {H5 : Hp} {D : Ends}, D.rt = Q → Ex H4 H5 → scanOf d = (fs, (scanOf d).2) → TroR K (scanOf d).2 z H4 → (∀ o H H', Ex H H' → TroR K o z H → TroR K o z H') → tRet (tTup (tCons (tVar 2) (tCons (tVar 3) tNil))) D [some (.byt d.toArray), some (.int 0), some (.ref l), some z, some (.int (a : Int)), some x, some y] H5 := fun {H5 D} hD e5 h1 h2 st => by
        refine s_retR (R := ScanR K cs (scanOf d)) (Er.ofU (eu_tup (ea_cons (ev_var rfl) (ea_cons (ev_var rfl) ea_nil)) (by simp)) fun p H6 hp e6 h6 => ⟨p, l, z, as, rfl, h6, e6 _ _ (e5 _ _ hlst4), ?_, st _ _ _ (e5.trans e6) h2⟩) fun v H6 e6 hv => ?_
        · have := hfn4.ex (e5.trans e6)
          rw [h1]
          exact this
        · rw [hD]
          exact q v H6 ((eH4.trans e5).trans e6) hv
      have st : ∀ o H H', Ex H H' → TroR K o z H → TroR K o z H' := fun o H H' e h => by
        cases o with
        | none => exact h
        | some n =>
          obtain ⟨q1, s1, xs, h1, h2⟩ := h
          exact ⟨q1, s1, xs, h1, ex_t e h2⟩
      cases hL : lookAt d a with
      | mem m2 e5 =>
        rw [hL] at hr hsc
        obtain ⟨hm, rfl, rfl⟩ := hr
        have hlt := lookAt_mem hL
        have hx : ∃ x', x = .ref x' := by
          obtain ⟨x', _, _, _, e, _⟩ := hm
          exact ⟨x', e⟩
        obtain ⟨x', rfl⟩ := hx
        refine q_when (b := false) (et_is (et_test (ev_op (ev_var rfl) ev_c rv_isN)) rfl) (fun h => by cases h) fun _ H5 e5' => ?_
        have hxs : (as.map V.ref).length < 100000 := by
          rw [List.length_map, hfn.1]
          omega
        refine q_appU (K := K) (e5' _ _ hlst4) (ev_var rfl) (eu_tup (ea_cons (ev_var rfl) (ea_cons (ev_var rfl) ea_nil)) (by simp)) hxs fun p H6 hp e6 h6 => ?_
        have hlp : l ≠ p := fun e => by rw [← e, e5' _ _ hlst4] at hp; cases hp
        have hl6 := e6 _ _ (e5' _ _ hlst4)
        refine s_asg (v := .int (e5 : Int)) (ev_var rfl) fun H7 e7 => ⟨m, Nat.lt_succ_self m, e5, _, _, _, as ++ [p], fs ++ [(a, m2)], rfl, fun b o ho => e7 _ _ ?_, ?_, FndI.ex e7 (FndI.snoc (u := .ref x') ((hfn4.ex (e5'.trans e6)).exB hl6 ExB.upd) ?_ (memR_exB hl6 ExB.upd (memR_sta cs _ _ _ _ (e5'.trans e6) hm))), ?_, hlt.2, by omega, ?_⟩
        · rw [upd_ne (ne_of_none ho hl0)]
          exact e6 _ _ (e5' _ _ (eH4 _ _ ho))
        · rw [List.map_append]
          exact e7 _ _ upd_same
        · rw [upd_ne (Ne.symm hlp)]
          exact h6
        · rw [List.length_append]
          show (fs.length + 1) * 512 ≤ _
          omega
        · rw [hsc, List.append_assoc]
          rfl
      | over n =>
        rw [hL] at hr hsc
        obtain ⟨rfl, rfl⟩ := hr
        refine q_when (b := true) (et_is (et_test (ev_op (ev_var rfl) ev_c rv_isN)) rfl) (fun _ H5 e5 => ret rfl e5 ?_ ?_ st) fun h => by cases h
        · rw [hsc, List.append_nil]
        · rw [hsc]
          exact rfl
      | bad n =>
        rw [hL] at hr hsc
        obtain ⟨rfl, hz2⟩ := hr
        refine q_when (b := true) (et_is (et_test (ev_op (ev_var rfl) ev_c rv_isN)) rfl) (fun _ H5 e5 => ret rfl e5 ?_ ?_ st) fun h => by cases h
        · rw [hsc, List.append_nil]
        · rw [hsc]
          exact hz2
def kwScan : List (Str × V) := [("offset", .int 0)]
theorem ok_scan {cs : Cs} (g : GF K mg) (D : D0K K mg "scan" (topS 83) kwScan) (c_look_data : C8.Cal P w K mg base 1 "look_data" (spLookData) []) (c_is_within : C8.Cal P w K mg base 2 "is_within" (spIsWithin) []) (c_look_at : C8.Cal P w K mg base 8 "look_at" (spLookAt K cs) []) : C8.Cal P w K mg base 9 "scan" (spScan K cs) [.int 0] :=
  calK0 (P := P) (w := w) (base := base) D (by decide) sc_scan (fun vs H Q E h => by obtain ⟨d, rfl, _⟩ := h; rfl) (fun f cdv A outer s H vs Q E hr h => body_scan g c_look_data c_is_within c_look_at f cdv A outer s H vs Q E hr h) 1 rfl
    (fun D0 doc pm an cdv ct us ks h1 h2 => match us, ks, h1, h2 with
      | [_], [_], _, _ => ⟨_, _, _, _, _, _, rfl, rfl, rfl⟩)
end
end Tar

/-! TaP20 -/
set_option Elab.async false
set_option linter.all false
set_option maxRecDepth 100000
set_option maxHeartbeats 400000
/-! defs, 20: complain, read, blob -/
namespace Tar
open PySem PySem.Spec PyProof.Rows L2 Evl
section
variable {K : PySem.W.Frag} {σ : L2.St} {H : Hp} {D : Ends} {tz : TS} {te : TE}
/-- x, y = e, e a pair told by a relation -/
theorem q_asgPR {i j : Nat} {R : V → V → Hp → Prop} (h : Er te σ H (fun v H1 => ∃ p x y, v = .ref p ∧ SqT K H1 p [x, y] ∧ R x y H1)) (k : ∀ x y H1, Ex H H1 → R x y H1 → tz D ((σ.set i (some x)).set j (some y)) H1) : tSeq (tAsg te (gTup K 2 (gCons (gName i) (gCons (gName j) gNil)))) tz D σ H := h H (Ex.refl _) _ fun v H1 e hp => by
  obtain ⟨p, x, y, rfl, h1, hr⟩ := hp
  exact ⟨p, _, rfl, h1, rfl, _, _, rfl, _, _, rfl, rfl, k x y H1 e hr⟩
end
section
variable {P : Program} {w : World} {K : PySem.W.Frag} {mg : Str → Option Value} {base : Heap}
def spComplain : Sp := fun vs H Q _ => vs = [.non] ∧ Ret .non H Q
theorem sc_complain : FnScope ["trouble"] ["trouble"] (defScope (topS 84)) := ⟨rfl, rfl, rfl, by decide +kernel, rfl, by decide +kernel, by decide +kernel⟩
theorem ok_complain (g : GF K mg) (D : D0 K mg "complain" (topS 84))   : C8.Cal P w K mg base 1 "complain" (spComplain) [] := by
  refine calD D (fun _ _ _ _ _ _ us hl => match us, hl with | [_], _ => rfl) sc_complain (fun vs H Q E h => by obtain ⟨rfl, q⟩ := h; rfl) fun f cdv A outer s H vs Q E hr h => ?_
  have hu := hr.units
  have hu1 := hu_of hr
  obtain ⟨rfl, q⟩ := h
  refine ⟨_, pss_one (ps_if (pt_cmpR op_notN1 (pv 0) (pe_non) (nomark _)) (pss_cons (ps_if (pt_cmpR (op_eqX (K := K) hu) (pe_ix (ix_X (K := K)) (pv 0) (pe_int) (fun _ _ => rfl)) (pe_str) (nomark _)) (pss_never) (pss_nil))
      (pss_one (ps_never))) (pss_nil)), ?_⟩
  exact s_when (b := false) (et_is (et_test (ev_op (ev_var rfl) ev_c rv_notN)) rfl) (fun h => by cases h) fun _ H1 e => q H1 e
def fstV (H : Hp) (p : Addr) : V := match H p with
  | some (.tup (x :: _)) => x
  | _ => .non
def sndV (H : Hp) (p : Addr) : V := match H p with
  | some (.tup [_, y]) => y
  | _ => .non
theorem fnd_pr {cs : Cs} {H : Hp} {as : List Addr} {fs : List (Nat × Mem)} {l : Addr} (hl : H l = some (.lst (as.map V.ref))) (h : FndI cs H as fs) : PrL K H l (as.map fun p => (fstV H p, sndV H p)) ∧ MemI cs H (as.map (sndV H)) (fs.map Prod.snd) ∧ ∀ (i : Nat) (p : Addr) (z : Nat × Mem), as[i]? = some p → fs[i]? = some z → fstV H p = .int (z.1 : Int) := by
  have key : ∀ (i : Nat) (p : Addr) (z : Nat × Mem), as[i]? = some p → fs[i]? = some z → H p = some (.tup [fstV H p, sndV H p]) ∧ fstV H p = .int (z.1 : Int) ∧ MemR cs z.2 (sndV H p) H := fun i p z hi hz => by
    obtain ⟨u, h1, h2⟩ := h.2 i p z hi hz
    have e1 : fstV H p = .int (z.1 : Int) := by unfold fstV; rw [h1]
    have e2 : sndV H p = u := by unfold sndV; rw [h1]
    rw [e1, e2]
    exact ⟨h1, rfl, h2⟩
  have hz : ∀ (i : Nat) (p : Addr), as[i]? = some p → ∃ z, fs[i]? = some z := fun i p hi => by
    have := (List.getElem?_eq_some_iff.mp hi).1
    exact ⟨_, List.getElem?_eq_getElem (by have := h.1; omega)⟩
  refine ⟨⟨as, sq_of hl, by simp, fun i p z hi hz2 => ?_⟩, ⟨by simp [h.1], fun i v m hv hm => ?_⟩, fun i p z hi hz2 => (key i p z hi hz2).2.1⟩
  · obtain ⟨y, hy⟩ := hz i p hi
    rw [List.getElem?_map, hi] at hz2
    cases hz2
    exact st_of (key i p y hi hy).1
  · rw [List.getElem?_map] at hv hm
    obtain ⟨p, hp, rfl⟩ := Option.map_eq_some_iff.mp hv
    obtain ⟨z, hz2, rfl⟩ := Option.map_eq_some_iff.mp hm
    exact (key i p z hp hz2).2.2
/-- a new list of members -/
def MemsR (cs : Cs) (ms : List Mem) : V → Hp → Prop := fun v H => ∃ p us, v = .ref p ∧ H p = some (.lst us) ∧ MemI cs H us ms
def spRead (cs : Cs) : Sp := fun vs H Q _ => ∃ d : List UInt8, vs = [.byt d.toArray] ∧ d.length ≤ 60000 ∧ (scanOf d).2 = none ∧ ∀ v H', Ex H H' → MemsR cs ((scanOf d).1.map Prod.snd) v H' → Q v H'
theorem scanF_cnt : ∀ (f : Nat) (d : List UInt8) (a : Nat), a ≤ d.length → (scanF f d a).1.length * 512 + a ≤ d.length
  | 0, d, a, h => by show 0 * 512 + a ≤ _; omega
  | f + 1, d, a, h => by
    unfold scanF
    cases hL : lookAt d a with
    | mem m e =>
      have h1 := lookAt_mem hL
      have h2 := scanF_cnt f d e h1.2
      show ((scanF f d e).1.length + 1) * 512 + a ≤ _
      omega
    | over n => show 0 * 512 + a ≤ _; omega
    | bad n => show 0 * 512 + a ≤ _; omega
theorem scanOf_cnt (d : List UInt8) : (scanOf d).1.length * 512 ≤ d.length := by
  have h := scanF_cnt (d.length + 1) d 0 (Nat.zero_le _)
  unfold scanOf
  generalize scanF (d.length + 1) d 0 = r at *
  omega
/-- [v for k, v in found] -/
theorem er_snds {σ : L2.St} {H : Hp} {tl : TE} {l : Addr} {as : List Addr} {fs : List (Nat × Mem)} {cs : Cs} {j k : Nat} {vs : List Nat} (h : Ev tl σ H (.ref l)) (hl : H l = some (.lst (as.map V.ref))) (hf : FndI cs H as fs) (hz : as.length ≤ 90000)
    (hw : ∀ x y, wipe (((wipe σ vs).set j (some x)).set k (some y)) vs = wipe σ vs) (hk : ∀ x y, (((wipe σ vs).set j (some x)).set k (some y))[k]? = some (some y)) : Er (tLc (iList K tl) (gTup K 2 (gCons (gName j) (gCons (gName k) gNil))) tYes (tVar k) vs) σ H (MemsR cs (fs.map Prod.snd)) := by
  obtain ⟨h1, h2, h3⟩ := fnd_pr (K := K) hl hf
  have g := el_lcPrL (K := K) (σ := σ) (H := H) (tl := tl) (te := tVar k) (j := j) (k := k) (vs := vs) (fun z => z.2) h h1 (by rw [List.length_map]; omega) hw fun z hz => ev_var (hk _ _)
  have e1 : (as.map fun p => (fstV H p, sndV H p)).map (fun z => z.2) = as.map (sndV H) := by
    rw [List.map_map]
    rfl
  rw [e1] at g
  exact Er.ofL g fun p H1 hp e1 h1 => ⟨p, _, rfl, h1, h2.ex e1⟩
theorem sc_read : FnScope ["data", "found", "trouble", "offset", "member"] ["data"] (defScope (topS 85)) := ⟨rfl, rfl, rfl, by decide +kernel, rfl, by decide +kernel, by decide +kernel⟩
theorem ok_read {cs : Cs} (g : GF K mg) (D : D0 K mg "read" (topS 85)) (c_complain : C8.Cal P w K mg base 1 "complain" (spComplain) []) (c_scan : C8.Cal P w K mg base 9 "scan" (spScan K cs) [.int 0])  : C8.Cal P w K mg base 10 "read" (spRead cs) [] := by
  refine calD D (fun _ _ _ _ _ _ us hl => match us, hl with | [_], _ => rfl) sc_read (fun vs H Q E h => by obtain ⟨d, rfl, hd, ho, q⟩ := h; rfl) fun f cdv A outer s H vs Q E hr h => ?_
  have hu := hr.units
  have hu1 := hu_of hr
  obtain ⟨d, rfl, hd, ho, q⟩ := h
  refine ⟨_, pss_cons (ps_asg (C8.pe_c c_scan hr (by decide) rfl (pa_cons (pv 0) (pa_nil))) (pg_tupK (K := K) (n := 2) rfl (pgs_cons (pg_name (i := 1) sc_read.nd rfl (Or.inl rfl)) (pgs_cons (pg_name (i := 2) sc_read.nd rfl (Or.inl rfl)) (pgs_nil)))))
      (pss_cons (ps_expr (C8.pe_c c_complain hr (by decide) rfl (pa_cons (pv 2) (pa_nil))))
      (pss_one (ps_ret (pe_lc (own := [("offset", 3), ("member", 4)]) (tt := tYes) rfl sc_read.nd (pi_listK (K := K) (pv 1)) (blkOk_by (N := ["data", "found", "trouble", "offset", "member"]) (sc := defScope (topS 85)) (by decide +kernel)) (fun _ _ _ _ _ => pg_tupK (K := K) (n := 2) rfl (pgs_cons (pg_name (i := 3) sc_read.nd rfl (Or.inl rfl)) (pgs_cons (pg_name (i := 4) sc_read.nd rfl (Or.inl rfl)) (pgs_nil)))) (fun _ _ _ _ _ => pts_nil) (fun _ _ _ _ _ => pv 4))))), ?_⟩
  refine q_asgPR (R := fun x y H => ∃ l as, x = .ref l ∧ y = .non ∧ H l = some (.lst (as.map V.ref)) ∧ FndI cs H as (scanOf d).1) ((er_call (R := ScanR K cs (scanOf d)) (ea_cons (ev_var rfl) ea_nil) fun H1 e Q q E => ⟨d, rfl, by omega, q⟩).imp fun v H1 e1 hv => ?_) fun x y H1 e1 hr => ?_
  · obtain ⟨p, l, t, as, rfl, h1, h2, h3, h4⟩ := hv
    rw [ho] at h4
    obtain rfl : t = .non := h4
    exact ⟨p, _, _, rfl, st_of h1, l, as, rfl, rfl, h2, h3⟩
  · obtain ⟨l, as, rfl, rfl, h2, h3⟩ := hr
    refine q_drop (ev_call (ea_cons (ev_var rfl) ea_nil) (Ret.sp fun H1 e Q E q => ⟨rfl, q⟩)) fun H2 e2 => ?_
    have hcnt := scanOf_cnt d
    exact s_retR (er_snds (ev_var rfl) (e2 _ _ h2) (h3.ex e2) (by rw [h3.1]; omega) (fun _ _ => rfl) (fun _ _ => rfl)) fun v H3 e3 hv => q v H3 ((e1.trans e2).trans e3) hv
/-! ### blob -/
def inByte (n : Int) : Prop := 0 ≤ n ∧ n ≤ 255
def bytesOf (ns : List Int) : List UInt8 := ns.map fun n => n.toNat.toUInt8
def spBlob (K : PySem.W.Frag) : Sp := fun vs H Q _ => ∃ (a : Addr) (ns : List Int), vs = [.ref a] ∧ H a = some (.lst (ns.map V.int)) ∧ (∀ n ∈ ns, inByte n) ∧ ns.length ≤ 60000 ∧ Ret (.byt (bytesOf ns).toArray) H Q
theorem kl1 : kitB "list" "list" = some true := by decide +kernel
theorem ev_isiLT {σ : L2.St} {H : Hp} {ta tt : TE} {a : Addr} {xs : List V} (h : Ev ta σ H (.ref a)) (ha : H a = some (.lst xs)) (ht : EvU tt σ H [.ty "list", .ty "tuple"]) : Ev (tCB (rIsiX K) (tCons ta (tCons tt tNil))) σ H (.bl true) := fun H1 e Q q =>
  h H1 e _ fun H2 e2 => ht H2 (e.trans e2) _ fun p H3 hp e3 h3 => .inr ⟨.ref a, p, _, .type "list", [.type "list", .type "tuple"], true, rfl, h3, .cons (.ty "list") (.cons (.ty "tuple") .nil), .base (.lst (e3 _ _ (e2 _ _ (e _ _ ha)))), kitAny_cons (b := true) (kit_ty kl1) (fun h => by cases h) (fun _ => rfl), q H3 (e2.trans e3)⟩
theorem ev_bytesOf {σ : L2.St} {H : Hp} {ta : TE} {a : Addr} {ns : List Int} (h : Ev ta σ H (.ref a)) (ha : H a = some (.lst (ns.map V.int))) (hb : ∀ n ∈ ns, inByte n) : Ev (tThenZ ta (kByts K)) σ H (.byt (bytesOf ns).toArray) := fun H1 e Q q =>
  h H1 e _ fun H2 e2 => .inr ⟨a, ns, rfl, sq_of (e2 _ _ (e _ _ ha)), fun n hn => by have := hb n hn; unfold inByte at this; omega, q H2 e2⟩
theorem sc_blob : FnScope ["numbers", "number"] ["numbers"] (defScope (topS 15)) := ⟨rfl, rfl, rfl, by decide +kernel, rfl, by decide +kernel, by decide +kernel⟩
theorem ok_blob (g : GF K mg) (D : D0 K mg "blob" (topS 15)) (c_is_within : C8.Cal P w K mg base 2 "is_within" (spIsWithin) [])  : C8.Cal P w K mg base 3 "blob" (spBlob K) [] := by
  refine calD D (fun _ _ _ _ _ _ us hl => match us, hl with | [_], _ => rfl) sc_blob (fun vs H Q E h => by obtain ⟨a, ns, rfl, ha, hb, hl, q⟩ := h; rfl) fun f cdv A outer s H vs Q E hr h => ?_
  have hu := hr.units
  have hu1 := hu_of hr
  obtain ⟨a, ns, rfl, ha, hb, hl, q⟩ := h
  refine ⟨_, pss_cons (ps_if (PW.pt (pw_or (pt_not (pt_val (pe_callB (cr_isiX (K := K)) rfl g.n_isinstance bo_isinstance (pa_cons (pv 0) (pa_cons (pe_tup (pa_cons (pe_bltn (v := .ty "list") rfl g.n_list bo_list rfl) (pa_cons (pe_bltn (v := .ty "tuple") rfl g.n_tuple bo_tuple rfl) (pa_nil)))) (pa_nil)))))) (pw_or1 (pt_not (pt_val (pe_callB (cr_allX (K := K) rfl) rfl g.n_all bo_all (pa_cons (pe_lc (own := [("number", 1)]) (tt := tYes) rfl sc_blob.nd (pi_listK (K := K) (pv 0)) (blkOk_by (N := ["numbers", "number"]) (sc := defScope (topS 15)) (by decide +kernel)) (fun _ _ _ _ _ => pg_name (i := 1) sc_blob.nd rfl (Or.inl rfl)) (fun _ _ _ _ _ => pts_nil) (fun _ _ _ _ _ => C8.pe_c c_is_within hr (by decide) rfl (pa_cons (pv 1) (pa_cons (pe_int) (pa_cons (pe_int) (pa_nil)))))) (pa_nil)))))))) (pss_never) (pss_nil))
      (pss_one (ps_ret (pe_bytesOf rfl rfl g.n_bytes (pv 0)))), ?_⟩
  have g := el_lcV (K := K) (σ := L2.start ["numbers", "number"] [.ref a]) (H := H) (tl := tVar 0) (te := tCall spIsWithin [] C8.E0 (tCons (tVar 1) (tCons (tC (.int 0)) (tCons (tC (.int 255)) tNil)))) (j := 1) (vs := [1]) (fun _ => V.bl true) (ev_var rfl) (sq_of ha) (by rw [List.length_map]; omega) (fun _ => rfl) fun x hx => ?_
  · have e1 : (ns.map V.int).map (fun _ => V.bl true) = (ns.map fun _ => true).map V.bl := by rw [List.map_map, List.map_map]; rfl
    rw [e1] at g
    have k := ev_all (K := K) g
    have e3 : (ns.map fun _ => true).all id = true := by simp
    rw [e3] at k
    refine q_when (b := false) (et_is (et_or (a := false) (b := false) (et_is (et_not (et_B (ev_isiLT (ev_var rfl) ha (eu_tup (ea_cons ev_c (ea_cons ev_c ea_nil)) (by simp))))) rfl) fun _ => et_is (et_not (et_B k)) rfl) rfl) (fun h => by cases h) fun _ H1 e1 => s_ret (ev_bytesOf (ev_var rfl) (e1 _ _ ha) hb) fun H2 e2 => q H2 (e1.trans e2)
  · obtain ⟨n, hn, rfl⟩ := List.mem_map.mp hx
    have := hb n hn
    unfold inByte at this
    exact ev_is (ev_call (ea_cons (ev_var rfl) (ea_cons ev_c (ea_cons ev_c ea_nil))) (Ret.sp fun H1 e Q E q => ⟨n, 0, 255, rfl, q⟩)) (congrArg V.bl (by simp [this]))
end
end Tar

/-! TaX1 -/
set_option Elab.async false
set_option linter.all false
set_option maxRecDepth 100000
set_option maxHeartbeats 400000
/-! the plain law, 1: a right header is what writing gives -/
namespace Tar
open PySem PySem.Spec PyProof.Rows L2 Evl
theorem sub_app {l : List UInt8} {i j k : Nat} (h1 : i ≤ j) (h2 : j ≤ k) : sub l i j ++ sub l j k = sub l i k := by
  unfold sub
  have e : l.drop j = (l.drop i).drop (j - i) := by rw [List.drop_drop]; congr 1; omega
  rw [e, ← List.take_add]
  congr 1
  omega
theorem sub_sub {l : List UInt8} {i j a b : Nat} (h : i + b ≤ j) : sub (sub l i j) a b = sub l (i + a) (i + b) := by
  unfold sub
  rw [List.drop_take, List.take_take, List.drop_drop]
  congr 1
  omega
theorem sub_full {l : List UInt8} : sub l 0 l.length = l := by
  unfold sub
  rw [List.drop_zero, Nat.sub_zero, List.take_length]
theorem toB_toT (l : List UInt8) : toB (toT l) = l := by
  unfold toB toT
  rw [List.map_map]
  have : (Nat.toUInt8 ∘ UInt8.toNat) = id := by
    funext c
    show UInt8.ofNat c.toNat = c
    exact UInt8.ofNat_toNat
  rw [this, List.map_id]
theorem toB_len (t : List Nat) : (toB t).length = t.length := by simp [toB]
theorem textOf_inv {f : List UInt8} {t : List Nat} (h : textOf f = some t) : f = toB t ++ zs (f.length - t.length) ∧ t.length ≤ f.length := by
  have hl := textOf_len h
  unfold textOf at h
  split at h
  · rename_i hh
    have e := Option.some.inj h
    have e2 : toB t = cutZ f := by rw [← e, toB_toT]
    have e3 : t.length = (cutZ f).length := by rw [← e2, toB_len]
    refine ⟨?_, hl⟩
    rw [e2, e3]
    exact hh.1.symm
  · cases h
theorem zs_take (n m : Nat) : (zs n).take m = zs (min m n) := by simp [zs, List.take_replicate]
theorem textField_of {f : List UInt8} {t : List Nat} {w : Nat} (h : textOf f = some t) (hw : f.length = w) : textField t w = f := by
  obtain ⟨e, hl⟩ := textOf_inv h
  unfold textField
  rw [List.take_of_length_le (by omega : t.length ≤ w), List.take_append, toB_len, List.take_of_length_le (by rw [toB_len]; omega), zs_take, Nat.min_eq_left (Nat.sub_le _ _)]
  rw [hw] at e
  exact e.symm
theorem textField_take (t : List Nat) (w : Nat) : textField (t.take w) w = textField t w := by
  unfold textField
  rw [List.take_take, Nat.min_self]
theorem octB_snoc {d : List Nat} {c : Nat} (h : octB (d ++ [c]) = true) : octB d = true ∧ 48 ≤ c ∧ c ≤ 55 := by
  unfold octB at h ⊢
  rw [List.all_append, Bool.and_eq_true] at h
  refine ⟨h.1, ?_⟩
  have := h.2
  simpa using this
theorem rep_snoc (n : Nat) : List.replicate n 48 ++ [48] = List.replicate (n + 1) 48 := by
  rw [List.replicate_succ']
theorem zf_oct : ∀ (k : Nat) (d : List Nat), d.length = k + 1 → octB d = true → zfN (octT (Oc.octNum d)) (k + 1) = d
  | 0, d, hl, h => by
    match d, hl with
    | [c], _ =>
      have h2 := (octB_snoc (d := []) h).2
      have e : Oc.octNum [c] = c - 48 := by show 0 * 8 + (c - 48) = _; omega
      rw [e, octT_small (by omega)]
      show List.replicate (1 - 1) 48 ++ [48 + (c - 48)] = [c]
      rw [show 48 + (c - 48) = c by omega]
      rfl
  | k + 1, d, hl, h => by
    have hne : d ≠ [] := fun e => by rw [e] at hl; cases hl
    have ed := List.dropLast_concat_getLast hne
    generalize d.getLast hne = c at ed
    have hl0 : d.dropLast.length = k + 1 := by rw [List.length_dropLast]; omega
    generalize d.dropLast = d0 at ed hl0
    subst ed
    obtain ⟨h0, h48, h55⟩ := octB_snoc h
    have ih := zf_oct k d0 hl0 h0
    rw [octNum_snoc]
    by_cases hz : Oc.octNum d0 = 0
    · rw [hz] at ih ⊢
      rw [octT_small (by omega), show 48 + (0 * 8 + (c - 48)) = c by omega]
      rw [octT_small (by decide)] at ih
      rw [← ih]
      show List.replicate (k + 1 + 1 - 1) 48 ++ [c] = (List.replicate (k + 1 - 1) 48 ++ [48]) ++ [c]
      rw [rep_snoc]
      congr 1
    · rw [octT_big (by omega), show (Oc.octNum d0 * 8 + (c - 48)) / 8 = Oc.octNum d0 by omega, show 48 + (Oc.octNum d0 * 8 + (c - 48)) % 8 = c by omega]
      have e : zfN (octT (Oc.octNum d0) ++ [c]) (k + 1 + 1) = zfN (octT (Oc.octNum d0)) (k + 1) ++ [c] := by
        unfold zfN
        rw [List.length_append, List.append_assoc]
        congr 2
        show k + 1 + 1 - ((octT (Oc.octNum d0)).length + 1) = _
        omega
      rw [e, ih]
theorem numberOf_inv {f : List UInt8} {n w : Nat} (h : numberOf f = some n) (hw : f.length = w) (h2 : 2 ≤ w) : octalField n w = f := by
  unfold numberOf at h
  split at h
  · cases h
  · rename_i d hd
    split at h
    · rename_i hh
      cases h
      obtain ⟨e, hl⟩ := textOf_inv hd
      unfold octalField
      have hdl : d.length = (w - 2) + 1 := by omega
      have := zf_oct (w - 2) d hdl hh.2
      rw [show w - 1 = w - 2 + 1 by omega, this]
      rw [show f.length - d.length = 1 by omega] at e
      exact e.symm
    · cases h
theorem numAt_field {l : List UInt8} (hl : l.length = 512) {i n : Nat} (hi : i < 5) (h : numAt l i = some n) : sub l (numB i).2.1 ((numB i).2.1 + (numB i).2.2) = octalField n (numB i).2.2 := by
  unfold numAt at h
  refine (numberOf_inv h ?_ ?_).symm
  · rw [sub_len, hl]
    match i, hi with
    | 0, _ => rfl
    | 1, _ => rfl
    | 2, _ => rfl
    | 3, _ => rfl
    | 4, _ => rfl
  · match i, hi with
    | 0, _ => decide
    | 1, _ => decide
    | 2, _ => decide
    | 3, _ => decide
    | 4, _ => decide
theorem numAt_zero {l : List UInt8} (h : wrongNum l = none) {i : Nat} (hi : i = 1 ∨ i = 2) : numAt l i = some 0 := by
  obtain ⟨n, hn, ho⟩ := numAt_some h (i := i) (by omega)
  unfold okNum at ho
  rw [Bool.and_eq_true, Bool.and_eq_true] at ho
  have h1 := ho.1.2
  have e : inV (.str (numB i).1) [.str "owner", .str "group"] = true := by
    rcases hi with rfl | rfl <;> decide
  rw [e] at h1
  have : n = 0 := by simpa using h1
  rw [hn, this]
theorem kind_field {l : List UInt8} (hl : l.length = 512) {c : Nat} (h : kindOf l = [c]) : sub l 156 157 = toB [c] := by
  unfold kindOf at h
  cases e : textOf (sub l 156 157) with
  | none => rw [e] at h; cases h
  | some t =>
    rw [e] at h
    obtain rfl : t = [c] := h
    obtain ⟨e2, _⟩ := textOf_inv e
    have : (sub l 156 157).length = 1 := by rw [sub_len, hl]; rfl
    rw [this] at e2
    exact e2
theorem sumB_zs (n : Nat) : sumB (zs n) = 0 := by
  unfold sumB zs
  rw [List.map_replicate]
  have : ∀ n : Nat, (List.replicate n (UInt8.toNat 0)).sum = 0 := by
    intro n
    induction n with
    | zero => rfl
    | succ n ih => rw [List.replicate_succ, List.sum_cons, ih]; rfl
  exact this n
theorem sub_mid {a b c : List UInt8} {i j : Nat} (h1 : a.length = i) (h2 : b.length = j - i) : sub (a ++ b ++ c) i j = b := by
  unfold sub
  rw [List.append_assoc, List.drop_append, List.drop_of_length_le (by omega), h1, Nat.sub_self, List.nil_append, List.drop_zero, ← h2, List.take_append, List.take_length, Nat.sub_self, List.take_zero, List.append_nil]
theorem sumOf_mid {a b c : List UInt8} (h1 : a.length = 148) (h2 : b.length = 8) : sumOf (a ++ b ++ c) = sumB a + sumB c + 256 := by
  unfold sumOf
  rw [sub_mid h1 h2, sumB_app, sumB_app]
  omega
theorem header_eq {l : List UInt8} {lk ll : Option (List Nat)} (h : WF l lk ll) (hl : l.length = 512) {N T : List Nat} {m s t : Nat} (hN : nameOf l = some (N.take 100)) (hT : targetOf l = some (T.take 100)) (hm : numAt l 0 = some m) (hs : numAt l 3 = some s) (ht : numAt l 4 = some t) : l = header (kindOf l) N m s t T := by
  obtain ⟨c, ec, _⟩ := kind_one h.kind
  have f0 : sub l 0 100 = textField N 100 := by
    rw [← textField_take]
    refine (textField_of (f := sub l 0 100) ?_ (by rw [sub_len, hl]; rfl)).symm
    exact hN
  have f1 : sub l 100 108 = octalField m 8 := numAt_field hl (i := 0) (by decide) hm
  have f2 : sub l 108 116 = octalField 0 8 := numAt_field hl (i := 1) (by decide) (numAt_zero h.num (.inl rfl))
  have f3 : sub l 116 124 = octalField 0 8 := numAt_field hl (i := 2) (by decide) (numAt_zero h.num (.inr rfl))
  have f4 : sub l 124 136 = octalField s 12 := numAt_field hl (i := 3) (by decide) hs
  have f5 : sub l 136 148 = octalField t 12 := numAt_field hl (i := 4) (by decide) ht
  have f7 : sub l 156 157 = toB (kindOf l) := by rw [ec]; exact kind_field hl ec
  have f8 : sub l 157 257 = textField T 100 := by
    rw [← textField_take]
    exact (textField_of (f := sub l 157 257) hT (by rw [sub_len, hl]; rfl)).symm
  have f10 : sub l 265 512 = zs 247 := by
    rw [← h.rest]
    unfold sub
    rw [List.take_of_length_le]
    rw [List.length_drop, hl]
    decide
  have front : sub l 0 148 = frontOf N m s t := by
    unfold frontOf
    rw [← f0, ← f1, ← f2, ← f4, ← f5]
    conv => rhs; rw [← f2.trans f2.symm]
    rw [sub_app (by decide) (by decide), sub_app (by decide) (by decide)]
    rw [show sub l 0 116 ++ sub l 108 116 = sub l 0 124 by rw [f2, ← f3, sub_app (by decide) (by decide)]]
    rw [sub_app (by decide) (by decide), sub_app (by decide) (by decide)]
  have behind : sub l 156 512 = behindOf (kindOf l) T := by
    unfold behindOf
    rw [← f7, ← f8, ← h.magic, ← f10, sub_app (by decide) (by decide), sub_app (by decide) (by decide), sub_app (by decide) (by decide)]
  have whole : sub l 0 148 ++ sub l 148 156 ++ sub l 156 512 = l := by
    rw [sub_app (by decide) (by decide), sub_app (by decide) (by decide)]
    have := sub_full (l := l)
    rw [hl] at this
    exact this
  have lf : (sub l 0 148).length = 148 := by rw [sub_len, hl]; rfl
  have lc : (sub l 148 156).length = 8 := by rw [sub_len, hl]; rfl
  have hsum : checksumField (frontOf N m s t ++ zs 8 ++ behindOf (kindOf l) T) = sub l 148 156 := by
    rw [h.sum, ← front, ← behind]
    unfold checksumField
    rw [sumOf_mid lf (zs_len 8)]
    have e := sumOf_mid (c := sub l 156 512) lf lc
    rw [whole] at e
    rw [e]
  unfold header
  rw [hsum, ← front, ← behind]
  exact whole.symm
end Tar

/-! TaX2 -/
set_option Elab.async false
set_option linter.all false
set_option maxRecDepth 100000
set_option maxHeartbeats 400000
/-! the plain law, 2: a member that is read is written as it was -/
namespace Tar
open PySem PySem.Spec PyProof.Rows L2 Evl
def longO (k : List Nat) : Option (List Nat) → List UInt8
  | none => []
  | some t => longPart k t
theorem spansFrom_le : ∀ (ss : List (Int × Int)) (e e2 : Int), spansFrom e ss = some e2 → e ≤ e2 ∧ ∀ s ∈ ss, s.1 + s.2 ≤ e2 ∧ 1 ≤ s.2
  | [], e, e2, h => by
    cases h
    exact ⟨Int.le_refl _, fun s hs => by cases hs⟩
  | t :: r, e, e2, h => by
    have h2 : (if t.1 ≤ e ∨ t.2 < 1 then none else spansFrom (t.1 + t.2) r) = some e2 := h
    split at h2
    · cases h2
    · rename_i hn
      have ih := spansFrom_le r _ e2 h2
      refine ⟨by omega, fun s hs => ?_⟩
      rcases List.mem_cons.mp hs with q | q
      · rw [q]
        exact ⟨ih.1, by omega⟩
      · exact ih.2 s q
theorem areSpans_le {n : Nat} {ss : List (Nat × Nat)} (h : areSpans n (iss ss) = true) : ss.length ≤ 50 ∧ ∀ s ∈ ss, s.1 + s.2 ≤ n := by
  unfold areSpans at h
  split at h
  · cases h
  · rename_i e he
    rw [Bool.and_eq_true, decide_eq_true_eq, decide_eq_true_eq] at h
    have hl : (iss ss).length = ss.length := by simp [iss]
    refine ⟨by omega, fun s hs => ?_⟩
    have := ((spansFrom_le _ _ _ he).2 ((s.1 : Int), (s.2 : Int)) (List.mem_map.mpr ⟨s, hs, rfl⟩)).1
    have h1 := h.1
    dsimp only at this
    omega
theorem sumS_cons (s : Nat × Nat) (r : List (Nat × Nat)) : sumS (s :: r) = s.2 + sumS r := by
  unfold sumS
  rw [List.map_cons, List.sum_cons]
theorem pieces_flat (d : List UInt8) : ∀ (x : List (Nat × Nat)) (b : Nat), ((piecesAt x d b).map Prod.snd).flatten = (d.drop b).take (sumS x)
  | [], b => by
    show [] = (d.drop b).take 0
    rw [List.take_zero]
  | s :: r, b => by
    show (d.drop b).take s.2 ++ ((piecesAt r d (b + s.2)).map Prod.snd).flatten = _
    rw [pieces_flat d r, sumS_cons, List.take_add, List.drop_drop]
theorem pieces_spans (d : List UInt8) : ∀ (x : List (Nat × Nat)) (b : Nat), b + sumS x ≤ d.length → spansP (piecesAt x d b) = x
  | [], b, h => rfl
  | s :: r, b, h => by
    rw [sumS_cons] at h
    show (s.1, ((d.drop b).take s.2).length) :: spansP (piecesAt r d (b + s.2)) = s :: r
    rw [pieces_spans d r (b + s.2) (by omega), List.length_take, List.length_drop, Nat.min_eq_left (by omega)]
theorem pieces_mem (d : List UInt8) : ∀ (x : List (Nat × Nat)) (b : Nat), ∀ z ∈ piecesAt x d b, ∃ s ∈ x, z.1 = s.1 ∧ z.2.length ≤ s.2
  | [], b, z, h => by cases h
  | s :: r, b, z, h => by
    rcases List.mem_cons.mp (show z ∈ (s.1, (d.drop b).take s.2) :: piecesAt r d (b + s.2) from h) with q | q
    · subst q
      exact ⟨s, List.mem_cons_self .., rfl, by rw [List.length_take]; omega⟩
    · obtain ⟨s', h1, h2⟩ := pieces_mem d r _ z q
      exact ⟨s', List.mem_cons_of_mem _ h1, h2⟩
theorem longPart_short {k t : List Nat} (h : t.length ≤ 100) : longPart k t = [] := by
  unfold longPart
  rw [if_pos h]
theorem name_text {l : List UInt8} {ll : Option (List Nat)} {N : List Nat} (h : isNameRight l ll = true) (hn : ¬ nameOf l = some kLL) (h2 : nmL ll) (e : nmO (nameOf l) ll = some N) : nameOf l = some (N.take 100) ∧ longPart [76] N = longO [76] ll := by
  unfold isNameRight at h
  cases ll with
  | some t =>
    obtain rfl : t = N := Option.some.inj e
    exact ⟨of_decide_eq_true h, rfl⟩
  | none =>
    have e2 : nameOf l = some N := e
    have := nameOf_len l N e2
    exact ⟨by rw [List.take_of_length_le this]; exact e2, longPart_short this⟩
theorem mem_bytes {d : List UInt8} {st a e : Nat} {lk ll : Option (List Nat)} {m : Mem} (h : atHeader d st a lk ll = .mem m e) (hd : a + 512 ≤ d.length) (wf : WF (sub d a (a + 512)) lk ll) (hk : inT (kindOf (sub d a (a + 512))) [75, 76] = false) (h1 : nmL lk) (h2 : nmL ll) : m.ok ∧ m.bytes = longO [75] lk ++ longO [76] ll ++ sub d a e ∧ (e - a) % 512 = 0 := by
  obtain ⟨ha, he, ee, em, hpad, hsp⟩ := atHeader_mem h
  have ho := hdr_ok wf hk (fun t h => (h1 t h).1) (fun t h => (h2 t h).1)
  have hb : (sub d a (a + 512)).length = 512 := by rw [sub_len]; omega
  generalize hbb : sub d a (a + 512) = b at *
  obtain ⟨mo, hm, hm2⟩ := ho.mode
  obtain ⟨ti, hti, hti2⟩ := ho.time
  obtain ⟨n, hn, hn1, hn2⟩ := ho.size
  obtain ⟨nm, hnm, hnm2⟩ := ho.name
  have dm : numD b 0 = mo := by unfold numD; rw [hm]; rfl
  have dt : numD b 4 = ti := by unfold numD; rw [hti]; rfl
  have dn : numD b 3 = n := by unfold numD; rw [hn]; rfl
  rw [dn] at ee hpad hsp
  obtain ⟨c, ec, hc, hll, h75, hlk⟩ := kind_one wf.kind
  rw [hk] at hll
  have hLL : ¬ nameOf b = some kLL := of_decide_eq_false hll.symm
  obtain ⟨hN, hL⟩ := name_text wf.name hLL h2 hnm
  have hend : a + 512 + n ≤ e := by rw [ee]; unfold endAt; omega
  have hmod : (e - a) % 512 = 0 := by
    rw [ee]
    unfold endAt
    omega
  -- the stored bytes are the data's
  have fin : ∀ {m : Mem} {T : List Nat}, m.stored = sub d (a + 512) (a + 512 + n) → m.letter = kindOf b → m.name = nm → m.mode = mo → m.time = ti → m.target = T → targetOf b = some (T.take 100) → longPart [75] T = longO [75] lk → m.bytes = longO [75] lk ++ longO [76] ll ++ sub d a e := fun {m T} hs h3 h4 h5 h6 h7 hT hK => by
    have hsl : m.stored.length = n := by rw [hs, sub_len]; omega
    unfold Mem.bytes
    rw [h3, h4, h5, h6, h7, hsl, ← header_eq wf hb hN hT hm hn hti, hK, hL]
    have hp : padded m.stored = sub d (a + 512) e := by
      unfold padded
      rw [hsl, hs, ← sub_app (l := d) (i := a + 512) (j := a + 512 + n) (k := e) (by omega) hend, hpad]
      congr 2
      rw [ee]
      unfold endAt
      omega
    rw [hp, ← hbb, List.append_assoc, sub_app (by omega) ha]
  have plain : ∀ {c' : Nat}, kindOf b = [c'] → c' ≠ 49 → c' ≠ 50 → c' ≠ 76 → targetOf b = some (([] : List Nat).take 100) ∧ longPart [75] [] = longO [75] lk := fun {c'} hk2 n1 n2 n3 => by
    have hcc : c = c' := by rw [ec] at hk2; exact (List.cons.inj hk2).1
    constructor
    · have ht := wf.target
      unfold isTargetRight at ht
      rw [if_neg] at ht
      · exact of_decide_eq_true ht
      · rw [hk2, inT_one]
        simp
        omega
    · cases lk with
      | none => rfl
      | some t =>
        have := hlk rfl
        simp at this
        omega
  have links : ∀ {c' : Nat}, kindOf b = [c'] → (c' = 49 ∨ c' = 50) → ∃ T, nmO (targetOf b) lk = some T ∧ nmT T = true ∧ targetOf b = some (T.take 100) ∧ longPart [75] T = longO [75] lk := fun {c'} hk2 hc2 => by
    obtain ⟨T, hT, hT2⟩ := ho.target (by rcases hc2 with rfl | rfl; exact .inr hk2; exact .inl hk2)
    refine ⟨T, hT, hT2, ?_⟩
    have ht := wf.target
    unfold isTargetRight at ht
    have e1 : inT (kindOf b) [49, 50] = true := by
      rw [hk2, inT_one]
      rcases hc2 with rfl | rfl <;> rfl
    rw [if_pos e1] at ht
    cases lk with
    | some t =>
      obtain rfl : t = T := Option.some.inj hT
      exact ⟨of_decide_eq_true ht, rfl⟩
    | none =>
      have e2 : targetOf b = some T := hT
      have := targetOf_len b T e2
      exact ⟨by rw [List.take_of_length_le this]; exact e2, longPart_short this⟩
  have zero : ∀ {t : List Nat}, kindOf b = t → sizeOf t = (0, 0) → n = 0 ∧ sub d (a + 512) (a + 512 + n) = [] := fun {t} hk2 hs => by
    rw [hk2, hs] at hn2
    have : n = 0 := by have := hn2; dsimp only at this; omega
    refine ⟨this, ?_⟩
    rw [this]
    unfold sub
    rw [Nat.add_zero, Nat.sub_self, List.take_zero]
  unfold memOf at em
  rw [hnm, dm, dt, dn] at em
  rcases ho.kind with hk2 | hk2 | hk2 | hk2 | hk2
  · rw [if_pos hk2] at em
    subst em
    have hn4 : n ≤ 4096 := by rw [hk2] at hn2; exact hn2
    obtain ⟨hT, hK⟩ := plain hk2 (by decide) (by decide) (by decide)
    exact ⟨⟨hnm2, hm2, hti2, by show (sub d (a + 512) (a + 512 + n)).length ≤ 4096; rw [sub_len]; omega⟩, fin rfl hk2.symm rfl rfl rfl rfl hT hK, hmod⟩
  · rw [if_neg (by rw [hk2]; decide), if_pos hk2] at em
    have hn5 : 512 ≤ n := by rw [hk2] at hn1; exact hn1
    have hn6 : n ≤ 4608 := by rw [hk2] at hn2; exact hn2
    have hne := hsp hk2 (by omega)
    cases hS : spansOf (sub d (a + 512) (a + 512 + 512)) ((n : Int) - 512) with
    | none => exact absurd hS hne
    | some r =>
      obtain ⟨sz, ss⟩ := r
      rw [hS] at em
      have em2 : m = .sparse nm mo ti sz (piecesAt ss (sub d (a + 512 + 512) (a + 512 + n)) 0) := em
      subst em2
      obtain ⟨s1, s2, s3, s4⟩ := spansOf_ok hS
      have hD : (sub d (a + 512 + 512) (a + 512 + n)).length = sumS ss := by rw [sub_len]; omega
      obtain ⟨hT, hK⟩ := plain hk2 (by decide) (by decide) (by decide)
      obtain ⟨g1, g2⟩ := areSpans_le s2
      refine ⟨⟨hnm2, hm2, hti2, s1, by rw [piecesAt_len]; exact g1, fun z hz => ?_⟩, fin ?_ hk2.symm rfl rfl rfl rfl hT hK, hmod⟩
      · obtain ⟨s, hs, q1, q2⟩ := pieces_mem _ _ _ z hz
        have := g2 s hs
        omega
      · show mapBlock sz (spansP (piecesAt ss (sub d (a + 512 + 512) (a + 512 + n)) 0)) ++ ((piecesAt ss (sub d (a + 512 + 512) (a + 512 + n)) 0).map Prod.snd).flatten = _
        rw [pieces_spans _ _ _ (by omega), s4, pieces_flat, List.drop_zero, ← hD, List.take_length, sub_app (by omega) (by omega)]
  · rw [if_neg (by rw [hk2]; decide), if_neg (by rw [hk2]; decide), if_pos hk2] at em
    subst em
    obtain ⟨hT, hK⟩ := plain hk2 (by decide) (by decide) (by decide)
    exact ⟨⟨hnm2, hm2, hti2, True.intro⟩, fin (zero hk2 rfl).2.symm hk2.symm rfl rfl rfl rfl hT hK, hmod⟩
  · rw [if_neg (by rw [hk2]; decide), if_neg (by rw [hk2]; decide), if_neg (by rw [hk2]; decide), if_pos hk2] at em
    obtain ⟨T, hT0, hT2, hT, hK⟩ := links hk2 (.inr rfl)
    rw [hT0] at em
    have em2 : m = .sym nm mo ti T := em
    subst em2
    exact ⟨⟨hnm2, hm2, hti2, hT2⟩, fin (zero hk2 rfl).2.symm hk2.symm rfl rfl rfl rfl hT hK, hmod⟩
  · rw [if_neg (by rw [hk2]; decide), if_neg (by rw [hk2]; decide), if_neg (by rw [hk2]; decide), if_neg (by rw [hk2]; decide)] at em
    obtain ⟨T, hT0, hT2, hT, hK⟩ := links hk2 (.inl rfl)
    rw [hT0] at em
    have em2 : m = .link nm mo ti T := em
    subst em2
    exact ⟨⟨hnm2, hm2, hti2, hT2⟩, fin (zero hk2 rfl).2.symm hk2.symm rfl rfl rfl rfl hT hK, hmod⟩
/-- a long part that is read -/
theorem long_bytes {d : List UInt8} {a n c : Nat} {lk ll : Option (List Nat)} {t : List Nat} (wf : WF (sub d a (a + 512)) lk ll) (hd : a + 1024 ≤ d.length) (hk : kindOf (sub d a (a + 512)) = [c]) (hc : c = 75 ∨ c = 76) (ht : textOf (sub d (a + 512) (a + 1024)) = some t) (hn : numAt (sub d a (a + 512)) 3 = some n) (hl : t.length + 1 = n) (h100 : 100 < t.length) (h250 : t.length ≤ 250) : sub d a (a + 1024) = longPart [c] t := by
  have hb : (sub d a (a + 512)).length = 512 := by rw [sub_len]; omega
  obtain ⟨c', ec, _, hll, _, _⟩ := kind_one wf.kind
  have hin : inT (kindOf (sub d a (a + 512))) [75, 76] = true := by
    rw [hk, inT_one]
    rcases hc with rfl | rfl <;> rfl
  rw [hin] at hll
  have hLL : nameOf (sub d a (a + 512)) = some kLL := of_decide_eq_true hll.symm
  have isL : isLL (sub d a (a + 512)) = true := hll.symm
  have zero : ∀ i, (i = 0 ∨ i = 4) → numAt (sub d a (a + 512)) i = some 0 := fun i hi => by
    obtain ⟨k, hk2, ho⟩ := numAt_some wf.num (i := i) (by omega)
    unfold okNum at ho
    rw [Bool.and_eq_true, Bool.and_eq_true, isL] at ho
    have h1 := ho.2
    have e : inV (.str (numB i).1) [.str "mode", .str "time"] = true := by
      rcases hi with rfl | rfl <;> decide
    rw [e] at h1
    have : k = 0 := by simpa using h1
    rw [hk2, this]
  have hT : targetOf (sub d a (a + 512)) = some (([] : List Nat).take 100) := by
    have ht := wf.target
    unfold isTargetRight at ht
    rw [if_neg] at ht
    · exact of_decide_eq_true ht
    · rw [hk, inT_one]
      rcases hc with rfl | rfl <;> decide
  have he := header_eq wf hb (N := kLL) (T := []) hLL hT (zero 0 (.inl rfl)) hn (zero 4 (.inr rfl))
  obtain ⟨et, _⟩ := textOf_inv ht
  have hlb : (sub d (a + 512) (a + 1024)).length = 512 := by rw [sub_len]; omega
  have hp : padded (toB t ++ zs 1) = sub d (a + 512) (a + 1024) := by
    rw [et, hlb]
    unfold padded
    rw [List.length_append, toB_len, zs_len, List.append_assoc]
    congr 1
    unfold zs
    rw [List.replicate_append_replicate]
    congr 1
    omega
  unfold longPart
  rw [if_neg (by omega), hp, hl]
  rw [hk] at he
  rw [← he, sub_app (by omega) (by omega)]
end Tar

/-! TaX3 -/
set_option Elab.async false
set_option linter.all false
set_option maxRecDepth 100000
set_option maxHeartbeats 400000
/-! the plain law, 3: what scan finds -/
namespace Tar
open PySem PySem.Spec PyProof.Rows L2 Evl
def cntO : Option (List Nat) → Nat
  | none => 0
  | some _ => 1
theorem cntO_le (o : Option (List Nat)) : cntO o ≤ 1 := by
  cases o with
  | none => exact Nat.zero_le _
  | some t => exact Nat.le_refl _
def LookOk (d : List UInt8) (st : Nat) : Look → Prop
  | .mem m e => m.ok ∧ m.bytes = sub d st e ∧ (e - st) % 512 = 0 ∧ st + 512 ≤ e ∧ e ≤ d.length
  | .over _ => sub d st (st + 1024) = zs 1024
  | .bad n => st ≤ n ∧ n ≤ st + 2048
theorem lookAtF_ok : ∀ (f : Nat) {d : List UInt8} {st a : Nat} {lk ll : Option (List Nat)}, nmL lk → nmL ll → a = st + 1024 * (cntO lk + cntO ll) → (a ≤ d.length ∨ a = st) → sub d st a = longO [75] lk ++ longO [76] ll → LookOk d st (lookAtF f d st a lk ll)
  | 0, d, st, a, lk, ll, h1, h2, ha, had, hs => by
    show st ≤ st ∧ st ≤ st + 2048
    omega
  | f + 1, d, st, a, lk, ll, h1, h2, ha, had, hs => by
    have c1 := cntO_le lk
    have c2 := cntO_le ll
    have bst : LookOk d st (.bad st) := ⟨Nat.le_refl _, by omega⟩
    have bat : LookOk d st (.bad a) := ⟨by omega, by omega⟩
    unfold lookAtF
    by_cases g1 : (sub d a (a + 512)).length ≠ 512
    · rw [if_pos g1]
      exact bst
    rw [if_neg g1]
    have hl512 : (sub d a (a + 512)).length = 512 := by omega
    have hle : a + 512 ≤ d.length := by
      rw [sub_len] at hl512
      omega
    by_cases g2 : a = st ∧ sub d a (a + 512) = zs 512
    · rw [if_pos g2]
      by_cases g3 : (sub d (a + 512) (a + 1024)).length < 512
      · rw [if_pos g3]
        exact bst
      rw [if_neg g3]
      by_cases g4 : sub d (a + 512) (a + 1024) = zs 512
      · rw [if_pos g4]
        show sub d st (st + 1024) = zs 1024
        rw [← g2.1, ← sub_app (l := d) (i := a) (j := a + 512) (k := a + 1024) (by omega) (by omega), g2.2, g4]
        unfold zs
        rw [List.replicate_append_replicate]
      · rw [if_neg g4]
        exact bat
    rw [if_neg g2]
    by_cases g3 : wrongField (sub d a (a + 512)) lk ll ≠ none
    · rw [if_pos g3]
      exact bat
    rw [if_neg g3]
    have wf := wf_of (show wrongField (sub d a (a + 512)) lk ll = none by
      cases h : wrongField (sub d a (a + 512)) lk ll with
      | none => rfl
      | some x => rw [h] at g3; exact absurd (fun h => by cases h) g3)
    by_cases g4 : inT (kindOf (sub d a (a + 512))) [75, 76] = false
    · rw [if_pos g4]
      cases hA : atHeader d st a lk ll with
      | mem m e =>
        obtain ⟨q1, q2, q3⟩ := mem_bytes hA hle wf g4 h1 h2
        have := atHeader_mem hA
        refine ⟨q1, ?_, by omega, by omega, this.2.1⟩
        rw [q2, ← hs, sub_app (by omega) (by omega)]
      | over e =>
        unfold atHeader at hA
        split at hA
        · cases hA
        split at hA
        · cases hA
        split at hA
        · cases hA
        · cases hA
      | bad n =>
        unfold atHeader at hA
        split at hA
        · cases hA; exact bat
        split at hA
        · cases hA; exact bst
        split at hA
        · cases hA; exact bat
        · cases hA
    rw [if_neg g4]
    have g4' : inT (kindOf (sub d a (a + 512))) [75, 76] = true := by simpa using g4
    by_cases g5 : (sub d (a + 512) (a + 1024)).length < 512
    · rw [if_pos g5]
      exact bst
    rw [if_neg g5]
    have hle2 : a + 1024 ≤ d.length := by
      rw [sub_len] at g5
      omega
    by_cases g6 : isTextOf (textOf (sub d (a + 512) (a + 1024))) (numD (sub d a (a + 512)) 3) = false
    · rw [if_pos g6]
      exact bat
    rw [if_neg g6]
    obtain ⟨n, hn, hn1, hn2⟩ := wf.size
    have dn : numD (sub d a (a + 512)) 3 = n := by unfold numD; rw [hn]; rfl
    rw [dn] at g6
    have hkl := kind_long wf h2 g4'
    have hsz : 102 ≤ n ∧ n ≤ 251 := by
      rcases hkl with ⟨q, _⟩ | ⟨q, _⟩
      · rw [q] at hn1 hn2
        exact ⟨hn1, hn2⟩
      · rw [q] at hn1 hn2
        exact ⟨hn1, hn2⟩
    obtain ⟨t, ht, t1, t2, t3⟩ := isText_some (by simpa using g6) hsz.1 hsz.2
    have hnmt : nmL (textOf (sub d (a + 512) (a + 1024))) := fun u hu => by
      rw [ht] at hu
      cases hu
      exact ⟨t1, t2⟩
    have t4 := (nmT_len t1).2
    rcases hkl with ⟨q, rfl, rfl⟩ | ⟨q, rfl⟩
    · rw [if_pos q]
      have := long_bytes wf hle2 q (.inl rfl) ht hn t3 t2 t4
      refine lookAtF_ok f hnmt nmL_none (by rw [ht, ha]; rfl) (.inl hle2) ?_
      rw [ht, ← sub_app (l := d) (i := st) (j := a) (k := a + 1024) (by omega) (by omega), hs, this]
      show [] ++ [] ++ longPart [75] t = longPart [75] t ++ []
      rw [List.append_nil, List.append_nil, List.nil_append]
    · rw [if_neg (by rw [q]; decide)]
      have := long_bytes wf hle2 q (.inr rfl) ht hn t3 t2 t4
      refine lookAtF_ok f h1 hnmt (by rw [ht, ha]; show _ = st + 1024 * (cntO lk + 1); show st + 1024 * (cntO lk + 0) + 1024 = _; omega) (.inl hle2) ?_
      rw [ht, ← sub_app (l := d) (i := st) (j := a) (k := a + 1024) (by omega) (by omega), hs, this]
      show longO [75] lk ++ [] ++ longPart [76] t = longO [75] lk ++ longPart [76] t
      rw [List.append_nil]
theorem lookAt_ok (d : List UInt8) (st : Nat) : LookOk d st (lookAt d st) := lookAtF_ok _ nmL_none nmL_none rfl (.inr rfl) (by
  unfold sub
  rw [Nat.sub_self, List.take_zero]
  rfl)
theorem over_of {d : List UInt8} {st : Nat} (h : sub d st (st + 1024) = zs 1024) : ∃ e, lookAt d st = .over e := by
  have hl : st + 1024 ≤ d.length := by
    have := congrArg List.length h
    rw [sub_len, zs_len] at this
    omega
  have e1 : sub d st (st + 512) = zs 512 := by
    have := sub_sub (l := d) (i := st) (j := st + 1024) (a := 0) (b := 512) (by omega)
    rw [h, Nat.add_zero] at this
    rw [← this]
    unfold sub
    rw [List.drop_zero, zs_take]
    rfl
  have e2 : sub d (st + 512) (st + 1024) = zs 512 := by
    have := sub_sub (l := d) (i := st) (j := st + 1024) (a := 512) (b := 1024) (by omega)
    rw [h] at this
    rw [← this]
    unfold sub zs
    rw [List.drop_replicate, List.take_replicate]
    rfl
  refine ⟨st + 1024, ?_⟩
  unfold lookAt
  generalize d.length = f at *
  unfold lookAtF
  rw [if_neg (by rw [e1, zs_len]; simp), if_pos ⟨rfl, e1⟩, if_neg (by rw [e2, zs_len]; decide), if_pos e2]
/-- how far members reach -/
def endF : Nat → List (Nat × Mem) → Nat
  | e, [] => e
  | e, z :: r => endF (e + 512 * (z.2.bytes.length / 512)) r
def spots : Nat → List (Nat × Mem) → Prop
  | _, [] => True
  | e, z :: r => z.1 = e ∧ spots (e + 512 * (z.2.bytes.length / 512)) r
structure ScanOk (d : List UInt8) (a : Nat) (r : List (Nat × Mem) × Option Nat) : Prop where
  ok : ∀ z ∈ r.1, z.2.ok
  spots : spots a r.1
  le : a ≤ endF a r.1 ∧ endF a r.1 ≤ d.length
  byt : ((r.1.map Prod.snd).map Mem.bytes).flatten = sub d a (endF a r.1)
  over : r.2 = none → sub d (endF a r.1) (endF a r.1 + 1024) = zs 1024
  bad : ∀ n, r.2 = some n → endF a r.1 ≤ n ∧ n ≤ endF a r.1 + 2048 ∧ sub d (endF a r.1) (endF a r.1 + 1024) ≠ zs 1024
theorem scanF_ok : ∀ (f : Nat) (d : List UInt8) (a : Nat), a ≤ d.length → d.length + 1 ≤ f + a → ScanOk d a (scanF f d a)
  | 0, d, a, h1, h2 => absurd h2 (by omega)
  | f + 1, d, a, h1, h2 => by
    have hlk := lookAt_ok d a
    unfold scanF
    cases hL : lookAt d a with
    | mem m e =>
      rw [hL] at hlk
      obtain ⟨q1, q2, q3, q4, q5⟩ := hlk
      have ih := scanF_ok f d e q5 (by omega)
      have hbl : m.bytes.length = e - a := by rw [q2, sub_len]; omega
      have he : a + 512 * (m.bytes.length / 512) = e := by rw [hbl]; omega
      dsimp only
      generalize scanF f d e = r at ih
      have hend : endF a ((a, m) :: r.1) = endF e r.1 := by
        show endF (a + 512 * (m.bytes.length / 512)) r.1 = _
        rw [he]
      refine ⟨fun z hz => ?_, ⟨rfl, ?_⟩, ?_, ?_, fun h => ?_, fun n h => ?_⟩
      · rcases List.mem_cons.mp hz with q | q
        · rw [q]
          exact q1
        · exact ih.ok z q
      · show Tar.spots (a + 512 * (m.bytes.length / 512)) r.1
        rw [he]
        exact ih.spots
      · rw [hend]
        have := ih.le
        omega
      · rw [hend]
        show m.bytes ++ ((r.1.map Prod.snd).map Mem.bytes).flatten = _
        rw [ih.byt, q2, sub_app (by omega) ih.le.1]
      · rw [hend]
        exact ih.over h
      · rw [hend]
        exact ih.bad n h
    | over e =>
      rw [hL] at hlk
      refine ⟨fun z hz => (by cases hz), True.intro, ⟨Nat.le_refl _, h1⟩, ?_, fun _ => hlk, fun n h => (by cases h)⟩
      show [] = sub d a a
      unfold sub
      rw [Nat.sub_self, List.take_zero]
    | bad n =>
      rw [hL] at hlk
      refine ⟨fun z hz => (by cases hz), True.intro, ⟨Nat.le_refl _, h1⟩, ?_, fun h => (by cases h), fun k h => ?_⟩
      · show [] = sub d a a
        unfold sub
        rw [Nat.sub_self, List.take_zero]
      · cases h
        refine ⟨hlk.1, hlk.2, fun h => ?_⟩
        obtain ⟨e, he⟩ := over_of (st := a) h
        rw [hL] at he
        cases he
theorem scanOf_ok (d : List UInt8) : ScanOk d 0 (scanOf d) := scanF_ok _ d 0 (Nat.zero_le _) (by omega)
theorem endF_snoc : ∀ (x : List (Nat × Mem)) (z : Nat × Mem) (e : Nat), endF e (x ++ [z]) = endF e x + 512 * (z.2.bytes.length / 512)
  | [], z, e => rfl
  | y :: r, z, e => endF_snoc r z _
theorem spots_at : ∀ (x : List (Nat × Mem)) (e i : Nat) (z : Nat × Mem), spots e x → x[i]? = some z → z.1 = endF e (x.take i)
  | [], e, i, z, h, hi => by simp at hi
  | y :: r, e, 0, z, h, hi => by
    cases hi
    exact h.1
  | y :: r, e, i + 1, z, h, hi => by
    have := spots_at r _ i z h.2 hi
    exact this
end Tar

/-! TaQ1 -/
set_option Elab.async false
set_option linter.all false
set_option maxRecDepth 100000
set_option maxHeartbeats 400000
/-! the drawing defs, 1: the source -/
namespace Tar
open PySem PySem.Spec PyProof.Rows L2 Evl
/-- the source of draws at sa: n bounds what it counts -/
def SrcOk (sa : Addr) (n : Nat) (H : Hp) : Prop := ∃ a b c : Int, H sa = some (.lst [.int a, .int b, .int c]) ∧ 0 ≤ a ∧ a < 10 ^ 180 ∧ 0 ≤ b ∧ b < 2147483647 ∧ 0 ≤ c ∧ c ≤ n
theorem SrcOk.ex {sa : Addr} {n : Nat} {H H' : Hp} (h : SrcOk sa n H) (e : Ex H H') : SrcOk sa n H' := let ⟨a, b, c, h1, h2⟩ := h; ⟨a, b, c, e _ _ h1, h2⟩
theorem SrcOk.mono {sa : Addr} {n m : Nat} {H : Hp} (h : SrcOk sa n H) (e : n ≤ m) : SrcOk sa m H := let ⟨a, b, c, h1, h2, h3, h4, h5, h6, h7⟩ := h; ⟨a, b, c, h1, h2, h3, h4, h5, h6, by omega⟩
theorem SrcOk.ne {sa p : Addr} {n : Nat} {H : Hp} (h : SrcOk sa n H) (hp : H p = none) : p ≠ sa := fun e => by
  obtain ⟨a, b, c, h1, _⟩ := h
  rw [e, h1] at hp
  cases hp
/-- a value that a term gives while it draws k times at most -/
def Es (te : TE) (σ : L2.St) (sa : Addr) (n : Nat) (H : Hp) (k : Nat) (R : V → Hp → Prop) : Prop := ∀ Q : VK, (∀ v H', ExB sa H H' → SrcOk sa (n + k) H' → R v H' → Q v H') → te σ H Q
def EsA (ta : TA) (σ : L2.St) (sa : Addr) (n : Nat) (H : Hp) (k : Nat) (R : List V → Hp → Prop) : Prop := ∀ Q : List V → Hp → Prop, (∀ vs H', ExB sa H H' → SrcOk sa (n + k) H' → R vs H' → Q vs H') → ta σ H Q
/-- a promise, told so -/
def SpS (sp : Sp) (vs : List V) (sa : Addr) (n : Nat) (H : Hp) (k : Nat) (R : V → Hp → Prop) : Prop := ∀ (Q : VK) (E : XK), (∀ v H', ExB sa H H' → SrcOk sa (n + k) H' → R v H' → Q v H') → sp vs H Q E
/-- a relation that stays while draws are made -/
def StS (sa : Addr) (R : V → Hp → Prop) : Prop := ∀ v H H', ExB sa H H' → R v H → R v H'
def IntR (lo hi : Int) : V → Hp → Prop := fun v _ => ∃ r : Int, v = .int r ∧ lo ≤ r ∧ r ≤ hi
theorem intR_sts (sa : Addr) (lo hi : Int) : StS sa (IntR lo hi) := fun _ _ _ _ h => h
section
variable {K : PySem.W.Frag} {σ : L2.St} {H : Hp} {sa : Addr} {n k k1 k2 : Nat} {te ta tb : TE} {R R1 Rb : V → Hp → Prop} {D : Ends} {tz tu tw : TS} {i : Nat}
theorem Es.of (s : SrcOk sa n H) (h : Er te σ H R) : Es te σ sa n H 0 R := fun Q q => h H (Ex.refl _) Q fun v H1 e r => q v H1 (ExB.of e) (s.ex e) r
theorem Es.ofV {v : V} (s : SrcOk sa n H) (h : Ev te σ H v) (r : ∀ H1, Ex H H1 → R v H1) : Es te σ sa n H 0 R := Es.of s (Er.of h r)
theorem Es.imp (h : Es te σ sa n H k R) (hr : ∀ v H1, ExB sa H H1 → R v H1 → R1 v H1) : Es te σ sa n H k R1 := fun Q q => h Q fun v H1 e s r => q v H1 e s (hr v H1 e r)
theorem Es.le (h : Es te σ sa n H k R) (hk : k ≤ k1) : Es te σ sa n H k1 R := fun Q q => h Q fun v H1 e s r => q v H1 e (s.mono (by omega)) r
theorem esa_nil (s : SrcOk sa n H) : EsA tNil σ sa n H 0 (fun vs _ => vs = []) := fun Q q => q [] H (ExB.refl _ _) s rfl
theorem EsA.cons {tr : TA} {RA : List V → Hp → Prop} (h : Es te σ sa n H k R) (st : StS sa R) (hr : ∀ H1, ExB sa H H1 → SrcOk sa (n + k) H1 → EsA tr σ sa (n + k) H1 k1 RA) : EsA (tCons te tr) σ sa n H (k + k1) (fun vs H1 => ∃ v r, vs = v :: r ∧ R v H1 ∧ RA r H1) := fun Q q =>
  h _ fun v H1 e s r => hr H1 e s _ fun vs H2 e2 s2 ra => q _ H2 (e.trans e2) (by rw [← Nat.add_assoc]; exact s2) ⟨v, vs, rfl, st _ _ _ e2 r, ra⟩
theorem EsA.of {t : TA} {vs : List V} (s : SrcOk sa n H) (h : EvA t σ H vs) : EsA t σ sa n H 0 (fun us _ => us = vs) := fun Q q => h H (Ex.refl _) Q fun H1 e => q vs H1 (ExB.of e) (s.ex e) rfl
theorem es_call {sp : Sp} {dvs : List V} {E : XK} {t : TA} {RA : List V → Hp → Prop} (h : EsA t σ sa n H k RA) (hs : ∀ vs H1, ExB sa H H1 → SrcOk sa (n + k) H1 → RA vs H1 → SpS sp (vs ++ dvs) sa (n + k) H1 k1 R) : Es (tCall sp dvs E t) σ sa n H (k + k1) R := fun Q q =>
  h _ fun vs H1 e s ra => hs vs H1 e s ra Q E fun v H2 e2 s2 r => q v H2 (e.trans e2) (by rw [← Nat.add_assoc]; exact s2) r
theorem es_op {r : R2} {S1 S2 : V → Hp → Prop} (h : Es ta σ sa n H k S1) (st : StS sa S1) (h2 : ∀ H1, ExB sa H H1 → SrcOk sa (n + k) H1 → Es tb σ sa (n + k) H1 k1 S2) (hr : ∀ x y H2, S1 x H2 → S2 y H2 → ∃ z, (∀ Q : VK, Q z H2 → r x y H2 Q) ∧ R z H2) : Es (tOp r ta tb) σ sa n H (k + k1) R := fun Q q =>
  h _ fun x H1 e s r1 => h2 H1 e s _ fun y H2 e2 s2 r2 => by
    obtain ⟨z, hz, rz⟩ := hr x y H2 (st _ _ _ e2 r1) r2
    exact hz Q (q z H2 (e.trans e2) (by rw [← Nat.add_assoc]; exact s2) rz)
theorem q_asgS (h : Es te σ sa n H k R) (kk : ∀ v H1, ExB sa H H1 → SrcOk sa (n + k) H1 → R v H1 → tz D (σ.set i (some v)) H1) : tSeq (tAsg te (gName i)) tz D σ H := h _ fun v H1 e s r => kk v H1 e s r
theorem s_asgS (h : Es te σ sa n H k R) (kk : ∀ v H1, ExB sa H H1 → SrcOk sa (n + k) H1 → R v H1 → D.nx (σ.set i (some v)) H1) : tAsg te (gName i) D σ H := h _ fun v H1 e s r => kk v H1 e s r
theorem s_retS (h : Es te σ sa n H k R) (kk : ∀ v H1, ExB sa H H1 → SrcOk sa (n + k) H1 → R v H1 → D.rt v H1) : tRet te D σ H := h _ fun v H1 e s r => kk v H1 e s r
theorem es_addI {a b c d : Int} (h : Es ta σ sa n H k (IntR a b)) (h2 : ∀ H1, ExB sa H H1 → SrcOk sa (n + k) H1 → Es tb σ sa (n + k) H1 k1 (IntR c d)) : Es (tOp rAddX ta tb) σ sa n H (k + k1) (IntR (a + c) (b + d)) :=
  es_op h (intR_sts sa a b) h2 fun x y H2 ⟨i, ex, i1, i2⟩ ⟨j, ey, j1, j2⟩ => ⟨.int (i + j), fun Q q => .inl ⟨i, j, ex, ey, q⟩, i + j, rfl, by omega, by omega⟩
/-- [..][r] -/
theorem atI_in {xs : List V} {r : Int} (h0 : 0 ≤ r) (h1 : r < (xs.length : Int)) : ∃ v, atI xs r = some v ∧ v ∈ xs := by
  have hlt : r.toNat < xs.length := by omega
  refine ⟨xs[r.toNat], ?_, List.getElem_mem hlt⟩
  have := atI_nat (List.getElem?_eq_getElem hlt)
  rw [Int.toNat_of_nonneg h0] at this
  exact this
/-- everything but what is avoided stays -/
def ExA (av : Addr → Prop) (H H' : Hp) : Prop := ∀ a o, ¬ av a → H a = some o → H' a = some o
/-- what stands -/
def Old (H : Hp) : Addr → Prop := fun a => H a ≠ none
theorem ExA.of {av : Addr → Prop} {H H' : Hp} (h : av sa) (e : ExB sa H H') : ExA av H H' := fun a o ha ho => e a o (fun q => ha (by rw [q]; exact h)) ho
theorem old_src (s : SrcOk sa n H) : Old H sa := by
  obtain ⟨a, b, c, h, _⟩ := s
  unfold Old
  rw [h]
  simp
theorem back_none {p : Addr} {m : Nat} {H1 : Hp} (e : ExB sa H H1) (s : SrcOk sa m H1) (hp : H1 p = none) : ¬ Old H p := fun h => by
  cases h0 : H p with
  | none => exact h h0
  | some o =>
    have := e p o (s.ne hp) h0
    rw [hp] at this
    cases this
theorem old_mono {H1 : Hp} {m : Nat} (e : ExB sa H H1) (s : SrcOk sa m H1) {a : Addr} (h : Old H a) : Old H1 a := fun h1 => back_none e s h1 h
def LstA (av : Addr → Prop) (RA : List V → Hp → Prop) : V → Hp → Prop := fun v H => ∃ p xs, v = .ref p ∧ ¬ av p ∧ H p = some (.lst xs) ∧ RA xs H
/-- a list of its own -/
def LstR (sa : Addr) (RA : List V → Hp → Prop) : V → Hp → Prop := fun v H => ∃ p xs, v = .ref p ∧ p ≠ sa ∧ H p = some (.lst xs) ∧ RA xs H
def StA (sa : Addr) (RA : List V → Hp → Prop) : Prop := ∀ vs H H', ExB sa H H' → RA vs H → RA vs H'
theorem lstR_sts {RA : List V → Hp → Prop} (st : StA sa RA) : StS sa (LstR sa RA) := fun v H H' e ⟨p, xs, h1, h2, h3, h4⟩ => ⟨p, xs, h1, h2, e _ _ h2 h3, st _ _ _ e h4⟩
theorem es_lst {t : TA} {RA : List V → Hp → Prop} (h : EsA t σ sa n H k RA) (hl : ∀ vs H1, RA vs H1 → vs.length ≤ 100000) (st : StA sa RA) : Es (tLst t) σ sa n H k (LstR sa RA) := fun Q q =>
  h _ fun vs H1 e s ra => ⟨sz_of (hl vs H1 ra), fun p hp => q _ _ (e.trans (ExB.of (Ex.new hp))) (s.ex (Ex.new hp)) ⟨p, vs, rfl, s.ne hp, upd_same, st _ _ _ (ExB.of (Ex.new hp)) ra⟩⟩
theorem es_lstN {t : TA} {RA : List V → Hp → Prop} (h : EsA t σ sa n H k RA) (hl : ∀ vs H1, RA vs H1 → vs.length ≤ 100000) (st : StA sa RA) : Es (tLst t) σ sa n H k (LstA (Old H) RA) := fun Q q =>
  h _ fun vs H1 e s ra => ⟨sz_of (hl vs H1 ra), fun p hp => q _ _ (e.trans (ExB.of (Ex.new hp))) (s.ex (Ex.new hp)) ⟨p, vs, rfl, back_none e s hp, upd_same, st _ _ _ (ExB.of (Ex.new hp)) ra⟩⟩
theorem es_pick {t : TA} {RA : List V → Hp → Prop} {N : Nat} (h : EsA t σ sa n H k RA) (hl : ∀ vs H1, RA vs H1 → vs.length = N) (hN : N ≤ 100000) (st : StA sa RA) (h2 : ∀ H1, ExB sa H H1 → SrcOk sa (n + k) H1 → Es tb σ sa (n + k) H1 k1 (IntR 0 ((N : Int) - 1)))
    (hR : ∀ vs v H1, RA vs H1 → v ∈ vs → R v H1) : Es (tOp (rIx K) (tLst t) tb) σ sa n H (k + k1) R :=
  es_op (es_lst h (fun vs H1 ra => by rw [hl vs H1 ra]; exact hN) st) (lstR_sts st) h2 fun x y H2 ⟨p, xs, ex, hp, h1, ra⟩ ⟨r, ey, r0, r1⟩ => by
    obtain ⟨v, hv, hm⟩ := atI_in (xs := xs) r0 (by rw [hl xs H2 ra]; omega)
    exact ⟨v, fun Q q => .inl ⟨p, xs, r, v, ex, ey, sq_of h1, hv, q⟩, hR xs v H2 ra hm⟩
end
section
variable {P : Program} {w : World} {K : PySem.W.Frag} {mg : Str → Option Value} {base : Heap}
def spDraw : Sp := fun vs H Q _ => ∃ (sa : Addr) (m : Int) (n : Nat), vs = [.ref sa, .int m] ∧ 0 < m ∧ m < 10 ^ 50 ∧ SrcOk sa n H ∧ n ≤ 1000000 ∧ ∀ v H', ExB sa H H' → SrcOk sa (n + 1) H' → IntR 0 (m - 1) v H' → Q v H'
theorem mod_in {x m : Int} (h : 0 < m) : 0 ≤ x % m ∧ x % m ≤ m - 1 := ⟨Int.emod_nonneg _ (by omega), by have := Int.emod_lt_of_pos x h; omega⟩
theorem sc__law_draw : FnScope ["_law_source_here", "_law_many", "_law_digit"] ["_law_source_here", "_law_many"] (defScope (topS 88)) := ⟨rfl, rfl, rfl, by decide +kernel, rfl, by decide +kernel, by decide +kernel⟩
theorem ok__law_draw (g : GF K mg) (D : D0 K mg "_law_draw" (topS 88))   : C8.Cal P w K mg base 1 "_law_draw" (spDraw) [] := by
  refine calD D (fun _ _ _ _ _ _ us hl => match us, hl with | [_, _], _ => rfl) sc__law_draw (fun vs H Q E h => by obtain ⟨sa, m, n, rfl, hm, hm2, hs, hn, q⟩ := h; rfl) fun f cdv A outer s H vs Q E hr h => ?_
  have hu := hr.units
  have hu1 := hu_of hr
  obtain ⟨sa, m, n, rfl, hm, hm2, hs, hn, q⟩ := h
  refine ⟨_, pss_cons (ps_if (pt_cmpR op_gt (pe_ix (ix_X (K := K)) (pv 0) (pe_int) (fun _ _ => rfl)) (pe_int) (nomark _)) (pss_cons (ps_set (i := 2) sc__law_draw.nd rfl (Or.inl rfl) (pe_op op_modX (pe_callTy cr_intX rfl g.n_int bo_int (pa_cons (pe_ix (ix_X (K := K)) (pv 0) (pe_int) (fun _ _ => rfl)) (pa_nil))) (pv 1)))
      (pss_cons (ps_asg (pe_op op_divX (pe_ix (ix_X (K := K)) (pv 0) (pe_int) (fun _ _ => rfl)) (pv 1)) (pg_sub (pv 0) (pe_int) set_list))
      (pss_one (ps_ret (pv 2))))) (pss_nil))
      (pss_cons (ps_asg (pe_op op_addX (pe_ix (ix_X (K := K)) (pv 0) (pe_int) (fun _ _ => rfl)) (pe_int)) (pg_sub (pv 0) (pe_int) set_list))
      (pss_cons (ps_asg (pe_op op_modX (pe_callTy cr_intX rfl g.n_int bo_int (pa_cons (pe_op op_addX (pe_op op_addX (pe_op op_pow (pe_ix (ix_X (K := K)) (pv 0) (pe_int) (fun _ _ => rfl)) (pe_int)) (pe_op op_mulX (pe_int) (pe_ix (ix_X (K := K)) (pv 0) (pe_int) (fun _ _ => rfl)))) (pe_int)) (pa_nil))) (pe_int)) (pg_sub (pv 0) (pe_int) set_list))
      (pss_one (ps_ret (pe_op op_modX (pe_callTy cr_intX rfl g.n_int bo_int (pa_cons (pe_op op_divX (pe_op op_modX (pe_callTy cr_intX rfl g.n_int bo_int (pa_cons (pe_op op_mulX (pe_ix (ix_X (K := K)) (pv 0) (pe_int) (fun _ _ => rfl)) (pe_int)) (pa_nil))) (pe_int)) (pe_int)) (pa_nil))) (pv 1)))))), ?_⟩
  obtain ⟨a, b, c, h1, a0, a1, b0, b1, c0, c1⟩ := id hs
  have hl : ∀ {H' : Hp} {xs : List V}, H' sa = some (.lst xs) → SqL K H' sa xs := fun h => sq_of h
  have hdm : CDivW a m := wide_div hm (b := 200) (by omega) (by decide) (by decide)
  refine q_when (b := decide (0 < a)) (et_test (ev_op (ev_ixL (v := .int a) (ev_var rfl) ev_c (hl h1) rfl) ev_c rv_gt)) (fun hb H2 e2 => ?_) fun hb H2 e2 => ?_
  · have ha := of_decide_eq_true hb
    have h2 := e2 _ _ h1
    refine q_asg (v := .int (a % m)) (ev_op (ev_cb1 (ev_ixL (v := .int a) (ev_var rfl) ev_c (hl h2) rfl) rc_int1) (ev_var rfl) (rv_modI hm)) fun H3 e3 => ?_
    have h3 := e3 _ _ h2
    refine q_setL (j := 0) (v := .int (a / m)) h3 (ev_op (ev_ixL (v := .int a) (ev_var rfl) ev_c (hl h3) rfl) (ev_var rfl) (rv_divI hdm)) (ev_var rfl) ev_c (show (0 : Nat) < 3 by decide) fun H4 e4 => ?_
    refine s_ret (ev_var rfl) fun H5 e5 => q _ _ ((ExB.of ((e2.trans e3).trans e4)).trans (ExB.upd.trans (ExB.of e5))) ⟨a / m, b, c, e5 _ _ upd_same, Int.ediv_nonneg a0 (by omega), ?_, b0, b1, c0, by omega⟩ ⟨a % m, rfl, mod_in hm⟩
    have : a / m ≤ a := Int.ediv_le_self m a0
    omega
  · have h2 := e2 _ _ h1
    refine q_setL (j := 2) (v := .int (c + 1)) h2 (ev_op (ev_ixL (v := .int c) (ev_var rfl) ev_c (hl h2) rfl) ev_c rv_addI) (ev_var rfl) ev_c (show (2 : Nat) < 3 by decide) fun H3 e3 => ?_
    have h3 : upd H3 sa (.lst ([.int a, .int b, .int c].set 2 (.int (c + 1)))) sa = some (.lst [.int a, .int b, .int (c + 1)]) := upd_same
    have hpow : CPow b 5 := ⟨by decide, by decide, by omega⟩
    have hmul : CMulW 48271 (c + 1) := wide_mul (a := 20) (b := 30) (by decide) (by omega) (by decide) (by decide) (by decide)
    refine q_setL (j := 1) (v := .int ((b ^ 5 + 48271 * (c + 1) + 11) % 2147483647)) h3 (ev_op (ev_cb1 (ev_op (ev_op (ev_op (ev_ixL (v := .int b) (ev_var rfl) ev_c (hl h3) rfl) ev_c (rv_I hpow)) (ev_op ev_c (ev_ixL (v := .int (c + 1)) (ev_var rfl) ev_c (hl h3) rfl) (rv_mulI hmul)) rv_addI) ev_c rv_addI) rc_int1) ev_c (rv_modI (by decide))) (ev_var rfl) ev_c (show (1 : Nat) < 3 by decide) fun H4 e4 => ?_
    generalize hb2 : (b ^ 5 + 48271 * (c + 1) + 11) % 2147483647 = b2
    have hb3 := mod_in (x := b ^ 5 + 48271 * (c + 1) + 11) (m := 2147483647) (by decide)
    rw [hb2] at hb3
    have h4 : upd H4 sa (.lst ([.int a, .int b, .int (c + 1)].set 1 (.int b2))) sa = some (.lst [.int a, .int b2, .int (c + 1)]) := upd_same
    have hmul2 : CMulW b2 69621 := wide_mul (a := 40) (b := 20) (by omega) (by decide) (by decide) (by decide) (by decide)
    have hdiv : CDivW (b2 * 69621 % 2147483629) 8 := wide_div (b := 10) (by decide) (by decide) (by decide) (by decide)
    refine s_ret (v := .int (b2 * 69621 % 2147483629 / 8 % m)) (ev_op (ev_cb1 (ev_op (ev_op (ev_cb1 (ev_op (ev_ixL (v := .int b2) (ev_var rfl) ev_c (hl h4) rfl) ev_c (rv_mulI hmul2)) rc_int1) ev_c (rv_modI (by decide))) ev_c (rv_divI hdiv)) rc_int1) (ev_var rfl) (rv_modI hm)) fun H5 e5 => q _ _ (((((ExB.of e2).trans (ExB.of e3)).trans ExB.upd).trans (ExB.of e4)).trans (ExB.upd.trans (ExB.of e5))) ⟨a, b2, c + 1, e5 _ _ upd_same, a0, a1, hb3.1, by omega, by omega, by omega⟩ ⟨_, rfl, mod_in hm⟩
end
end Tar

/-! TaQ2 -/
set_option Elab.async false
set_option linter.all false
set_option maxRecDepth 100000
set_option maxHeartbeats 400000
/-! the drawing defs, 2: names, sizes, stamps -/
namespace Tar
open PySem PySem.Spec PyProof.Rows L2 Evl
/-- a text of few signs -/
def TxtR (N : Nat) : V → Hp → Prop := fun v _ => ∃ t : List Nat, v = .str (SX.S t) ∧ asc t ∧ t.length ≤ N
theorem txtR_sts (sa : Addr) (N : Nat) : StS sa (TxtR N) := fun _ _ _ _ h => h
def okStr (N : Nat) : V → Bool
  | .str s => s.cps.toList.all (fun c => decide (c < 128)) && decide (s.cps.toList.length ≤ N)
  | _ => false
theorem okStr_txt {N : Nat} {v : V} {H : Hp} (h : okStr N v = true) : TxtR N v H := by
  cases v with
  | str s =>
    unfold okStr at h
    rw [Bool.and_eq_true, decide_eq_true_eq, List.all_eq_true] at h
    exact ⟨s.cps.toList, by cases s; rfl, fun c hc => of_decide_eq_true (h.1 c hc), h.2⟩
  | _ => cases h
def okInt (lo hi : Int) : V → Bool
  | .int i => decide (lo ≤ i) && decide (i ≤ hi)
  | _ => false
theorem okInt_in {lo hi : Int} {v : V} {H : Hp} (h : okInt lo hi v = true) : IntR lo hi v H := by
  cases v with
  | int i =>
    unfold okInt at h
    rw [Bool.and_eq_true, decide_eq_true_eq, decide_eq_true_eq] at h
    exact ⟨i, rfl, h.1, h.2⟩
  | _ => cases h
section
variable {K : PySem.W.Frag} {σ : L2.St} {H : Hp} {sa : Addr} {n k k1 k2 : Nat} {te ta tb : TE} {R R1 Rb : V → Hp → Prop} {D : Ends} {tz tu tw : TS} {i j : Nat}
theorem es_drawE {M : Int} (hi : σ[i]? = some (some (.ref sa))) (s : SrcOk sa n H) (hn : n + k ≤ 1000000) (hM : M < 10 ^ 50) (h : ∀ H1, ExB sa H H1 → SrcOk sa n H1 → Es te σ sa n H1 k (IntR 1 M)) : Es (tCall spDraw [] C8.E0 (tCons (tVar i) (tCons te tNil))) σ sa n H (k + 1) (IntR 0 (M - 1)) := fun Q q => by
  show tVar i σ H fun v H1 => te σ H1 fun u H2 => spDraw [v, u] H2 Q C8.E0
  refine ev_var hi H (Ex.refl _) _ fun H0 e0 => h H0 (ExB.of e0) (s.ex e0) _ fun v H1 e1 s1 hv => ?_
  obtain ⟨m, rfl, m1, m2⟩ := hv
  exact ⟨sa, m, n + k, rfl, by omega, by omega, s1, hn, fun u H2 e2 s2 ⟨r, eu, r0, r1⟩ => q u H2 (((ExB.of e0).trans e1).trans e2) (by rw [← Nat.add_assoc]; exact s2) ⟨r, eu, r0, by omega⟩⟩
theorem es_draw {m : Int} (hi : σ[i]? = some (some (.ref sa))) (s : SrcOk sa n H) (hn : n ≤ 1000000) (h0 : 0 < m) (h1 : m < 10 ^ 50) : Es (tCall spDraw [] C8.E0 (tCons (tVar i) (tCons (tC (.int m)) tNil))) σ sa n H 1 (IntR 0 (m - 1)) :=
  (es_drawE (k := 0) (M := m) hi s hn h1 fun H1 e s1 => Es.ofV s1 ev_c fun _ _ => ⟨m, rfl, by omega, by omega⟩)
theorem es_pickC {t : TA} {vs : List V} (ok : V → Bool) (s : SrcOk sa n H) (h : EvA t σ H vs) (hN : vs.length ≤ 1000) (hall : vs.all ok = true) (h2 : ∀ H1, ExB sa H H1 → SrcOk sa n H1 → Es tb σ sa n H1 k1 (IntR 0 ((vs.length : Int) - 1))) (hR : ∀ v H1, ok v = true → R v H1) : Es (tOp (rIx K) (tLst t) tb) σ sa n H k1 R := by
  have g := es_pick (K := K) (k := 0) (k1 := k1) (R := R) (tb := tb) (N := vs.length) (EsA.of s h) (fun us H1 e => by rw [e]) (by omega) (fun us H1 H2 _ e => e) h2 (fun us v H1 e hm => hR v H1 (List.all_eq_true.mp hall v (by rw [← e]; exact hm)))
  rw [Nat.zero_add] at g
  exact g
/-- for i in range(e), e drawn -/
theorem q_forS {M : Nat} (h : Es te σ sa n H k (IntR 0 M)) (hM : M ≤ 100000) (Pv : Nat → L2.St → Hp → Prop) (h0 : ∀ H1, ExB sa H H1 → SrcOk sa (n + k) H1 → Pv 0 σ H1)
    (hs : ∀ (i : Nat) σ' H', i < M → Pv i σ' H' → tu { D with nx := Pv (i + 1), ct := Pv (i + 1), bk := tz D } (σ'.set j (some (.int (i : Int)))) H') (hd : ∀ (i : Nat) σ' H', i ≤ M → Pv i σ' H' → tz D σ' H') : tSeq (tFor (iRng1 (tCons te tNil)) (gName j) tu) tz D σ H :=
  h _ fun v H1 e s ⟨r, ev, r0, r1⟩ => ⟨r, by rw [ev], by omega, by omega, for_range (lo := 0) (n := r.toNat) Pv (h0 H1 e s) (fun i σ' H' hi p => by
    have e0 : (0 : Int) + (i : Int) = (i : Int) := Int.zero_add _
    show tu { D with nx := Pv (i + 1), ct := Pv (i + 1), bk := tz D } (σ'.set j (some (.int ((0 : Int) + (i : Int))))) H'
    rw [e0]
    exact hs i σ' H' (by omega) p) fun σ' H' p => hd r.toNat σ' H' (by omega) p⟩
theorem es_addT {a b : Nat} (h : Es ta σ sa n H k (TxtR a)) (h2 : ∀ H1, ExB sa H H1 → SrcOk sa (n + k) H1 → Es tb σ sa (n + k) H1 k1 (TxtR b)) (hz : a + b ≤ 1000000) : Es (tOp rAddX ta tb) σ sa n H (k + k1) (TxtR (a + b)) :=
  es_op h (txtR_sts sa a) h2 fun x y H2 ⟨t, ex, t1, t2⟩ ⟨u, ey, u1, u2⟩ => ⟨.str (SX.S (t ++ u)), fun Q q => .inr (.inr (.inl ⟨SX.S t, SX.S u, ex, ey, by rw [SX.S_len, SX.S_len, sizeLine_eq]; omega, by
    rw [SX.S_cat]
    exact q⟩)), t ++ u, rfl, fun c hc => by
    rcases List.mem_append.mp hc with z | z
    · exact t1 c z
    · exact u1 c z, by rw [List.length_append]; omega⟩
theorem es_txt {t : List Nat} {s0 : Str} {N : Nat} (s : SrcOk sa n H) (e : okStr N (.str s0) = true) : Es (tC (.str s0)) σ sa n H 0 (TxtR N) := Es.ofV s ev_c fun _ _ => okStr_txt e
theorem es_int {z lo hi : Int} (s : SrcOk sa n H) (e : okInt lo hi (.int z) = true) : Es (tC (.int z)) σ sa n H 0 (IntR lo hi) := Es.ofV s ev_c fun _ _ => okInt_in e
theorem es_var {v : V} (s : SrcOk sa n H) (hi : σ[i]? = some (some v)) (r : ∀ H1, Ex H H1 → R v H1) : Es (tVar i) σ sa n H 0 R := Es.ofV s (ev_var hi) r
end
section
variable {P : Program} {w : World} {K : PySem.W.Frag} {mg : Str → Option Value} {base : Heap}
def spRName : Sp := fun vs H Q _ => ∃ (sa : Addr) (n : Nat), vs = [.ref sa, .int 0] ∧ SrcOk sa n H ∧ n ≤ 900000 ∧ ∀ v H', ExB sa H H' → SrcOk sa (n + 4) H' → TxtR 14 v H' → Q v H'
theorem sc__law_random_name : FnScope ["_law_source_here", "_law_many", "_law_found", "_law_k"] ["_law_source_here", "_law_many"] (defScope (topS 89)) := ⟨rfl, rfl, rfl, by decide +kernel, rfl, by decide +kernel, by decide +kernel⟩
theorem ok__law_random_name (g : GF K mg) (D : D0 K mg "_law_random_name" (topS 89)) (c_law_draw : C8.Cal P w K mg base 1 "_law_draw" (spDraw) [])  : C8.Cal P w K mg base 2 "_law_random_name" (spRName) [] := by
  refine calD D (fun _ _ _ _ _ _ us hl => match us, hl with | [_, _], _ => rfl) sc__law_random_name (fun vs H Q E h => by obtain ⟨sa, n, rfl, hs, hn, q⟩ := h; rfl) fun f cdv A outer s H vs Q E hr h => ?_
  have hu := hr.units
  have hu1 := hu_of hr
  obtain ⟨sa, n, rfl, hs, hn, q⟩ := h
  refine ⟨_, pss_cons (ps_set (i := 2) sc__law_random_name.nd rfl (Or.inl rfl) (pe_ix (ix_X (K := K)) (pe_lst (pa_cons (pe_str) (pa_cons (pe_str) (pa_cons (pe_str) (pa_cons (pe_str) (pa_cons (pe_str) (pa_cons (pe_str) (pa_nil)))))))) (C8.pe_c c_law_draw hr (by decide) rfl (pa_cons (pv 0) (pa_cons (pe_int) (pa_nil)))) (fun _ _ => rfl)))
      (pss_cons (ps_for PassesOwn.never rfl (pi_range1 rfl g.n_range (pa_cons (pe_ix (ix_X (K := K)) (pe_lst (pa_cons (pe_int) (pa_cons (pe_int) (pa_cons (pe_int) (pa_cons (pe_int) (pa_nil)))))) (C8.pe_c c_law_draw hr (by decide) rfl (pa_cons (pv 0) (pa_cons (pe_int) (pa_nil)))) (fun _ _ => rfl)) pa_nil)) (pg_name (i := 3) sc__law_random_name.nd rfl (Or.inl rfl))
      (pss_one (ps_set (i := 2) sc__law_random_name.nd rfl (Or.inl rfl) (pe_op op_addX (pe_op op_addX (pv 2) (pe_str)) (pe_ix (ix_X (K := K)) (pe_lst (pa_cons (pe_str) (pa_cons (pe_str) (pa_cons (pe_str) (pa_cons (pe_str) (pa_cons (pe_str) (pa_cons (pe_str) (pa_nil)))))))) (C8.pe_c c_law_draw hr (by decide) rfl (pa_cons (pv 0) (pa_cons (pe_int) (pa_nil)))) (fun _ _ => rfl))))))
      (pss_one (ps_ret (pe_op op_addX (pv 2) (pe_op op_mulX (pe_str) (pv 1)))))), ?_⟩
  refine q_asgS (k := 1) (R := TxtR 4) (es_pickC (vs := [.str "a", .str "b", .str "dir", .str "x-1", .str "a.b", .str "_"]) (okStr 4) hs (by repeat (first | exact ea_nil | refine ea_cons ev_c ?_)) (by decide) (by decide) (fun H1 e s => es_draw (m := 6) rfl s (by omega) (by decide) (by decide)) fun v H1 h => okStr_txt h) fun v H1 e1 s1 hv => ?_
  refine q_forS (k := 1) (M := 2) (es_pickC (vs := [.int 0, .int 0, .int 1, .int 2]) (okInt 0 2) s1 (by repeat (first | exact ea_nil | refine ea_cons ev_c ?_)) (by decide) (by decide) (fun H1 e s => es_draw (m := 4) rfl s (by omega) (by decide) (by decide)) fun v H1 h => okInt_in h) (by decide) (fun i σ' H' => ∃ u x, σ' = [some (.ref sa), some (.int 0), some u, x] ∧ ExB sa H H' ∧ SrcOk sa (n + 2 + i) H' ∧ TxtR (4 + 5 * i) u H') (fun H2 e2 s2 => ⟨v, _, rfl, e1.trans e2, s2, hv⟩) (fun i σ' H' hi p => ?_) fun i σ' H' hi p => ?_
  · obtain ⟨u, x, rfl, eH, sH, hu⟩ := p
    refine s_asgS (k := 1) (R := TxtR (4 + 5 * i + 1 + 4)) (es_addT (k := 0) (k1 := 1) (es_addT (k := 0) (k1 := 0) (es_var sH rfl fun H1 e => hu) (fun H1 e s => es_txt (t := []) s (by decide)) (by omega)) (fun H1 e s => es_pickC (vs := [.str "a", .str "b", .str "c", .str "..a", .str "long", .str "0"]) (okStr 4) s (by repeat (first | exact ea_nil | refine ea_cons ev_c ?_)) (by decide) (by decide) (fun H1 e s => es_draw (m := 6) rfl s (by omega) (by decide) (by decide)) fun v H1 h => okStr_txt h) (by omega)) fun z H2 e2 s2 hz => ⟨z, _, rfl, eH.trans e2, s2, by rw [Nat.mul_add, ← Nat.add_assoc]; exact hz⟩
  · obtain ⟨u, x, rfl, eH, sH, hu⟩ := p
    obtain ⟨t, rfl, t1, t2⟩ := hu
    refine s_ret (v := .str (SX.S t)) (ev_is (ev_op (ev_var rfl) (ev_op (ev_lit (l := [113]) rfl) (ev_var rfl) (rv_mulT (by decide))) (rv_addT (by simp; omega))) (by simp)) fun H2 e2 => q _ _ (eH.trans (ExB.of e2)) ((sH.ex e2).mono (by omega)) ⟨t, rfl, t1, by omega⟩
theorem es_rname {σ : L2.St} {H : Hp} {sa : Addr} {n i : Nat} (s : SrcOk sa n H) (hi : σ[i]? = some (some (.ref sa))) (hn : n ≤ 900000) : Es (tCall spRName [] C8.E0 (tCons (tVar i) (tCons (tC (.int 0)) tNil))) σ sa n H 4 (TxtR 14) := fun Q q => by
  show tVar i σ H fun v H1 => spRName [v, .int 0] H1 Q C8.E0
  exact ev_var hi H (Ex.refl _) _ fun H0 e0 => ⟨sa, n, rfl, s.ex e0, hn, fun v H1 e1 s1 hv => q v H1 ((ExB.of e0).trans e1) s1 hv⟩
/-- one sign of a text -/
theorem es_sign {σ : L2.St} {H : Hp} {sa : Addr} {n k : Nat} {tb : TE} {s0 : Str} {N : Nat} (s : SrcOk sa n H) (hN : s0.cps.toList.length = N) (hN2 : N ≤ 1000) (hs : s0.cps.toList.all (fun c => decide (c < 128)) = true) (h : ∀ H1, ExB sa H H1 → SrcOk sa n H1 → Es tb σ sa n H1 k (IntR 0 ((N : Int) - 1))) : Es (tOp (rIx K) (tC (.str s0)) tb) σ sa n H k (fun v _ => ∃ c : Nat, v = .str (SX.S [c]) ∧ c < 128) := fun Q q =>
  h H (ExB.refl _ _) s _ fun y H2 e2 s2 ⟨r, ey, r0, r1⟩ => by
    have hlt : r.toNat < s0.cps.toList.length := by omega
    have h1 := atI_nat (List.getElem?_eq_getElem hlt)
    rw [Int.toNat_of_nonneg r0] at h1
    subst ey
    exact .inr (.inr ⟨s0, r, _, rfl, rfl, by rw [sizeLine_eq]; show s0.cps.size ≤ _; rw [← Array.length_toList]; omega, h1, q _ H2 e2 s2 ⟨_, rfl, of_decide_eq_true (List.all_eq_true.mp hs _ (List.getElem_mem hlt))⟩⟩)
def spAName : Sp := fun vs H Q _ => ∃ (sa : Addr) (n : Nat), vs = [.ref sa] ∧ SrcOk sa n H ∧ n ≤ 800000 ∧ ∀ v H', ExB sa H H' → SrcOk sa (n + 8) H' → TxtR 264 v H' → Q v H'
theorem sc__law_any_name : FnScope ["_law_source_here", "_law_way", "_law_size", "_law_base"] ["_law_source_here"] (defScope (topS 90)) := ⟨rfl, rfl, rfl, by decide +kernel, rfl, by decide +kernel, by decide +kernel⟩
theorem ok__law_any_name (g : GF K mg) (D : D0 K mg "_law_any_name" (topS 90)) (c_law_draw : C8.Cal P w K mg base 1 "_law_draw" (spDraw) []) (c_law_random_name : C8.Cal P w K mg base 2 "_law_random_name" (spRName) [])  : C8.Cal P w K mg base 3 "_law_any_name" (spAName) [] := by
  refine calD D (fun _ _ _ _ _ _ us hl => match us, hl with | [_], _ => rfl) sc__law_any_name (fun vs H Q E h => by obtain ⟨sa, n, rfl, hs, hn, q⟩ := h; rfl) fun f cdv A outer s H vs Q E hr h => ?_
  have hu := hr.units
  have hu1 := hu_of hr
  obtain ⟨sa, n, rfl, hs, hn, q⟩ := h
  refine ⟨_, pss_cons (ps_set (i := 1) sc__law_any_name.nd rfl (Or.inl rfl) (C8.pe_c c_law_draw hr (by decide) rfl (pa_cons (pv 0) (pa_cons (pe_int) (pa_nil)))))
      (pss_cons (ps_if (pt_cmpR op_lt (pv 1) (pe_int) (nomark _)) (pss_one (ps_ret (C8.pe_c c_law_random_name hr (by decide) rfl (pa_cons (pv 0) (pa_cons (pe_int) (pa_nil)))))) (pss_nil))
      (pss_cons (ps_if (pt_cmpR op_lt (pv 1) (pe_int) (nomark _)) (pss_cons (ps_set (i := 2) sc__law_any_name.nd rfl (Or.inl rfl) (pe_ix (ix_X (K := K)) (pe_lst (pa_cons (pe_int) (pa_cons (pe_int) (pa_cons (pe_int) (pa_cons (pe_int) (pa_cons (pe_int) (pa_cons (pe_int) (pa_cons (pe_op op_addX (pe_int) (C8.pe_c c_law_draw hr (by decide) rfl (pa_cons (pv 0) (pa_cons (pe_int) (pa_nil))))) (pa_nil))))))))) (C8.pe_c c_law_draw hr (by decide) rfl (pa_cons (pv 0) (pa_cons (pe_int) (pa_nil)))) (fun _ _ => rfl)))
      (pss_cons (ps_set (i := 3) sc__law_any_name.nd rfl (Or.inl rfl) (C8.pe_c c_law_random_name hr (by decide) rfl (pa_cons (pv 0) (pa_cons (pe_int) (pa_nil)))))
      (pss_one (ps_ret (pe_op op_addX (pv 3) (pe_op op_mulX (pe_ix (ix_X (K := K)) (pe_str) (C8.pe_c c_law_draw hr (by decide) rfl (pa_cons (pv 0) (pa_cons (pe_int) (pa_nil)))) (fun _ _ => rfl)) (pe_op op_sub (pv 2) (pe_callB (cr_lenX (K := K)) rfl g.n_len bo_len (pa_cons (pv 3) (pa_nil)))))))))) (pss_nil))
      (pss_one (ps_ret (pe_ix (ix_X (K := K)) (pe_lst (pa_cons (pe_str) (pa_cons (pe_str) (pa_cons (pe_str) (pa_cons (pe_str) (pa_cons (pe_str) (pa_cons (pe_str) (pa_cons (pe_str) (pa_cons (pe_str) (pa_nil)))))))))) (C8.pe_c c_law_draw hr (by decide) rfl (pa_cons (pv 0) (pa_cons (pe_int) (pa_nil)))) (fun _ _ => rfl)))))), ?_⟩
  refine q_asgS (k := 1) (R := IntR 0 7) (es_draw (m := 8) rfl hs (by omega) (by decide) (by decide)) fun v H1 e1 s1 hv => ?_
  obtain ⟨r, rfl, r0, r1⟩ := hv
  refine q_when (et_test (ev_op (ev_var rfl) ev_c rv_lt)) (fun hb H2 e2 => s_retS (es_rname (s1.ex e2) rfl (by omega)) fun v H3 e3 s3 hv => q v H3 ((e1.trans (ExB.of e2)).trans e3) (s3.mono (by omega)) (by
    obtain ⟨t, h1, h2, h3⟩ := hv
    exact ⟨t, h1, h2, by omega⟩)) fun hb H2 e2 => ?_
  have e12 := e1.trans (ExB.of e2)
  have s2 := s1.ex e2
  refine q_when (et_test (ev_op (ev_var rfl) ev_c rv_lt)) (fun hb H3 e3 => ?_) fun hb H3 e3 => ?_
  · have s3 := s2.ex e3
    refine q_asgS (n := n + 1) (k := 2) (R := IntR 99 250) (es_pick (K := K) (k := 1) (k1 := 1) (N := 7) (RA := fun vs _ => ∃ v, vs = [.int 99, .int 100, .int 101, .int 150, .int 249, .int 250, v] ∧ IntR 101 249 v H) ?_ (fun us H1 ⟨v, e, _⟩ => by rw [e]; rfl) (by decide) (fun us H1 H2 _ h => h) (fun H1 e s => es_draw (m := 7) rfl s (by omega) (by decide) (by decide)) fun us v H1 ⟨u, e, hu⟩ hm => ?_) fun v H4 e4 s4 hv => ?_
    · have c0 : ∀ {z : Int} {H' : Hp}, SrcOk sa (n + 1) H' → Es (tC (.int z)) [some (.ref sa), some (.int r), none, none] sa (n + 1) H' 0 (fun v _ => v = .int z) := fun s => Es.ofV s ev_c fun _ _ => rfl
      have cs0 : ∀ z : Int, StS sa (fun v _ => v = .int z) := fun z _ _ _ _ h => h
      have g := EsA.cons (c0 (z := 99) s3) (cs0 99) fun H4 _ s4 => EsA.cons (c0 (z := 100) s4) (cs0 100) fun H5 _ s5 => EsA.cons (c0 (z := 101) s5) (cs0 101) fun H6 _ s6 => EsA.cons (c0 (z := 150) s6) (cs0 150) fun H7 _ s7 => EsA.cons (c0 (z := 249) s7) (cs0 249) fun H8 _ s8 => EsA.cons (c0 (z := 250) s8) (cs0 250) fun H9 _ s9 =>
        EsA.cons (es_addI (k := 0) (k1 := 1) (a := 101) (b := 101) (c := 0) (d := 148) (es_int (z := 101) s9 (by decide)) fun H10 _ s10 => es_draw (i := 0) (m := 149) rfl s10 (by omega) (by decide) (by decide)) (intR_sts sa _ _) fun H11 _ s11 => esa_nil s11
      intro Q q
      refine g Q fun vs H1 e1 s1 hv => q vs H1 e1 s1 ?_
      obtain ⟨_, _, rfl, rfl, _, _, rfl, rfl, _, _, rfl, rfl, _, _, rfl, rfl, _, _, rfl, rfl, _, _, rfl, rfl, u, _, rfl, hu, rfl⟩ := hv
      exact ⟨u, rfl, hu⟩
    · subst e
      have : ∀ z : Int, 99 ≤ z → z ≤ 250 → IntR 99 250 (.int z) H1 := fun z h1 h2 => ⟨z, rfl, h1, h2⟩
      simp only [List.mem_cons, List.not_mem_nil, or_false] at hm
      rcases hm with rfl | rfl | rfl | rfl | rfl | rfl | rfl
      all_goals first | exact this _ (by decide) (by decide) | skip
      obtain ⟨z, e, z1, z2⟩ := hu
      subst e
      exact this z (by omega) (by omega)
    · obtain ⟨z, rfl, z0, z1⟩ := hv
      refine q_asgS (es_rname s4 rfl (by omega)) fun v H5 e5 s5 hv => ?_
      obtain ⟨t, rfl, t1, t2⟩ := hv
      have eall := ((e12.trans (ExB.of e3)).trans e4).trans e5
      refine s_retS (k := 1) (R := TxtR 264) (es_op (k := 0) (k1 := 1) (S1 := fun v _ => v = .str (SX.S t)) (S2 := TxtR 250) (es_var s5 rfl fun _ _ => rfl) (fun _ _ _ _ h => h) (fun H6 e6 s6 => es_op (k := 1) (k1 := 0) (S1 := fun v _ => ∃ c : Nat, v = .str (SX.S [c]) ∧ c < 128) (S2 := IntR (-1000) 250) (es_sign (N := 36) s6 (by decide) (by decide) (by decide) fun H7 e7 s7 => es_draw (m := 36) rfl s7 (by omega) (by decide) (by decide)) (fun _ _ _ _ h => h) (fun H7 e7 s7 => Es.ofV s7 (ev_op (ev_var rfl) (ev_cb1 (ev_var rfl) (rc_lenT (by omega))) rv_subI) fun _ _ => ⟨_, rfl, by omega, by omega⟩) fun x y H7 ⟨c, ex, hc⟩ ⟨m, ey, m0, m1⟩ => ⟨.str (SX.S (List.replicate m.toNat c)), fun Q q => .inr (.inr ⟨c, m, ex, ey, by omega, by omega, q⟩), _, rfl, fun d hd => by rw [List.eq_of_mem_replicate hd]; exact hc, by rw [List.length_replicate]; omega⟩) fun x y H6 ex ⟨u, ey, u1, u2⟩ => ⟨.str (SX.S (t ++ u)), fun Q q => .inr (.inr (.inl ⟨SX.S t, SX.S u, ex, ey, by rw [SX.S_len, SX.S_len, sizeLine_eq]; omega, by
        rw [SX.S_cat]
        exact q⟩)), t ++ u, rfl, fun c hc => by
        rcases List.mem_append.mp hc with z | z
        · exact t1 c z
        · exact u1 c z, by rw [List.length_append]; omega⟩) fun v H6 e6 s6 hv => q v H6 (eall.trans e6) (s6.mono (by omega)) hv
  · refine s_retS (k := 1) (R := TxtR 8) (es_pickC (vs := [.str "..", .str "/a", .str "a//b", .str "a/", .str "./a", .str "a/../b", .str "-", .str "._-/"]) (okStr 8) (s2.ex e3) (by repeat (first | exact ea_nil | refine ea_cons ev_c ?_)) (by decide) (by decide) (fun H1 e s => es_draw (m := 8) rfl s (by omega) (by decide) (by decide)) fun v H1 h => okStr_txt h) fun v H4 e4 s4 hv => q v H4 ((e12.trans (ExB.of e3)).trans e4) (s4.mono (by omega)) (by
      obtain ⟨t, h1, h2, h3⟩ := hv
      exact ⟨t, h1, h2, by omega⟩)
end
end Tar

/-! TaQ3 -/
set_option Elab.async false
set_option linter.all false
set_option maxRecDepth 100000
set_option maxHeartbeats 400000
/-! the drawing defs, 3: sizes, stamps, numbers -/
namespace Tar
open PySem PySem.Spec PyProof.Rows L2 Evl
def tInts (cs : List Int) (t : TA) : TA := cs.foldr (fun c t => tCons (tC (.int c)) t) t
def IntsR (lo hi : Int) (m : Nat) : List V → Hp → Prop := fun vs _ => vs.length = m ∧ ∀ v ∈ vs, ∃ r : Int, v = .int r ∧ lo ≤ r ∧ r ≤ hi
section
variable {K : PySem.W.Frag} {σ : L2.St} {H : Hp} {sa : Addr} {n k k1 k2 : Nat} {te ta tb : TE} {R R1 Rb : V → Hp → Prop} {D : Ends} {tz tu tw : TS} {i j : Nat}
theorem EsA.imp {RA RB : List V → Hp → Prop} {t : TA} (h : EsA t σ sa n H k RA) (hr : ∀ v H1, ExB sa H H1 → RA v H1 → RB v H1) : EsA t σ sa n H k RB := fun Q q => h Q fun v H1 e s r => q v H1 e s (hr v H1 e r)
theorem esa_ints {lo hi : Int} (h : ∀ H1, ExB sa H H1 → SrcOk sa n H1 → Es te σ sa n H1 k (IntR lo hi)) : ∀ (cs : List Int) (H1 : Hp), ExB sa H H1 → SrcOk sa n H1 → (∀ c ∈ cs, lo ≤ c ∧ c ≤ hi) → EsA (tInts cs (tCons te tNil)) σ sa n H1 k (IntsR lo hi (cs.length + 1))
  | [], H1, e, s, hc => (EsA.cons (k1 := 0) (h H1 e s) (intR_sts sa lo hi) fun H2 e2 s2 => esa_nil s2).imp fun vs H2 _ ⟨v, r, e1, hv, e2⟩ => by
    subst e1 e2
    exact ⟨rfl, fun u hu => by rw [List.mem_singleton.mp hu]; exact hv⟩
  | c :: cs, H1, e, s, hc => by
    have g := EsA.cons (k := 0) (te := tC (.int c)) (R := fun v _ => v = .int c) (Es.ofV s ev_c fun _ _ => rfl) (fun _ _ _ _ h => h) fun H2 e2 s2 => esa_ints h cs H2 (e.trans e2) s2 fun c hc2 => hc c (List.mem_cons_of_mem _ hc2)
    rw [Nat.zero_add] at g
    refine EsA.imp g fun vs H2 _ ⟨v, r, e1, hv, h2, h3⟩ => ?_
    subst e1 hv
    refine ⟨by rw [List.length_cons, h2]; rfl, fun u hu => ?_⟩
    rcases List.mem_cons.mp hu with q | q
    · rw [q]
      exact ⟨c, rfl, hc c (List.mem_cons_self ..)⟩
    · exact h3 u q
/-- [c, .., e][drawn] -/
theorem es_pickI {cs : List Int} {lo hi : Int} (s : SrcOk sa n H) (hc : (cs.all fun c => decide (lo ≤ c) && decide (c ≤ hi)) = true) (hl : cs.length ≤ 1000) (h : ∀ H1, ExB sa H H1 → SrcOk sa n H1 → Es te σ sa n H1 k (IntR lo hi)) (h2 : ∀ H1, ExB sa H H1 → SrcOk sa (n + k) H1 → Es tb σ sa (n + k) H1 k1 (IntR 0 ((cs.length : Nat) : Int))) : Es (tOp (rIx K) (tLst (tInts cs (tCons te tNil))) tb) σ sa n H (k + k1) (IntR lo hi) :=
  es_pick (K := K) (N := cs.length + 1) (esa_ints h cs H (ExB.refl _ _) s fun c hcc => by
    have := List.all_eq_true.mp hc c hcc
    rw [Bool.and_eq_true, decide_eq_true_eq, decide_eq_true_eq] at this
    exact this) (fun vs H1 h => h.1) (by omega) (fun vs H1 H2 _ h => h) (fun H1 e s1 => (h2 H1 e s1).imp fun v H2 _ ⟨r, e, r0, r1⟩ => ⟨r, e, r0, by omega⟩) fun vs v H1 h hv => h.2 v hv
theorem es_tup {t : TA} {RA : List V → Hp → Prop} (h : EsA t σ sa n H k RA) (hl : ∀ vs H1, RA vs H1 → vs.length ≤ 100000) (st : StA sa RA) : Es (tTup t) σ sa n H k (fun v H1 => ∃ p xs, v = .ref p ∧ p ≠ sa ∧ H1 p = some (.tup xs) ∧ RA xs H1) := fun Q q =>
  h _ fun vs H1 e s ra => ⟨sz_of (hl vs H1 ra), fun p hp => q _ _ (e.trans (ExB.of (Ex.new hp))) (s.ex (Ex.new hp)) ⟨p, vs, rfl, s.ne hp, upd_same, st _ _ _ (ExB.of (Ex.new hp)) ra⟩⟩
theorem q_asgP3S {i j l : Nat} {R : V → V → V → Hp → Prop} (h : Es te σ sa n H k (fun v H1 => ∃ p x y z, v = .ref p ∧ SqT K H1 p [x, y, z] ∧ R x y z H1)) (kk : ∀ x y z H1, ExB sa H H1 → SrcOk sa (n + k) H1 → R x y z H1 → tz D (((σ.set i (some x)).set j (some y)).set l (some z)) H1) : tSeq (tAsg te (gTup K 3 (gCons (gName i) (gCons (gName j) (gCons (gName l) gNil))))) tz D σ H := h _ fun v H1 e s hp => by
  obtain ⟨p, x, y, z, rfl, h1, hr⟩ := hp
  exact ⟨p, _, rfl, h1, rfl, _, _, rfl, _, _, rfl, _, _, rfl, rfl, kk x y z H1 e s hr⟩
theorem q_asgP2S {i j : Nat} {R : V → V → Hp → Prop} (h : Es te σ sa n H k (fun v H1 => ∃ p x y, v = .ref p ∧ SqT K H1 p [x, y] ∧ R x y H1)) (kk : ∀ x y H1, ExB sa H H1 → SrcOk sa (n + k) H1 → R x y H1 → tz D ((σ.set i (some x)).set j (some y)) H1) : tSeq (tAsg te (gTup K 2 (gCons (gName i) (gCons (gName j) gNil)))) tz D σ H := h _ fun v H1 e s hp => by
  obtain ⟨p, x, y, rfl, h1, hr⟩ := hp
  exact ⟨p, _, rfl, h1, rfl, _, _, rfl, _, _, rfl, rfl, kk x y H1 e s hr⟩
theorem el_repL {xs : List V} {m : Int} (h : EvL ta σ H xs) (h2 : Ev tb σ H (.int m)) (h0 : 0 ≤ m ∧ m ≤ 100000) (hz : m.toNat * xs.length ≤ 16777216) : EvL (tOp rMulX ta tb) σ H (List.replicate m.toNat xs).flatten := fun H1 e Q q =>
  h H1 e _ fun p H2 hp e2 h3 => h2 H2 (e.trans e2) _ fun H3 e3 => .inr (.inl ⟨p, m, xs, rfl, rfl, e3 _ _ h3, by omega, by omega, by rw [sizeLine_eq, Nat.mul_comm]; exact hz, fun r hr => q r _ (fresh_back (e2.trans e3) hr) ((e2.trans e3).trans (Ex.new hr)) upd_same⟩)
theorem el_slN {xs : List V} {tl th : TO} {lo hi : Option Int} (h : EvL te σ H xs) (h1 : EvO tl σ H lo) (h2 : EvO th σ H hi) : EvL (tSl (rSlX K) te tl th) σ H (cutV xs lo hi) := fun H1 e1 Q q =>
  h H1 e1 _ fun a H2 ha e2 h3 => h1 H2 (e1.trans e2) _ fun H3 e3 => h2 H3 ((e1.trans e2).trans e3) _ fun H4 e4 => .inr (.inr ⟨a, xs, rfl, sq_of (e4 _ _ (e3 _ _ h3)), fun p hp => q p _ (fresh_back ((e2.trans e3).trans e4) hp) (((e2.trans e3).trans e4).trans (Ex.new hp)) upd_same⟩)
end
theorem rep_one {α : Type} : ∀ (m : Nat) (v : α), (List.replicate m [v]).flatten = List.replicate m v
  | 0, v => rfl
  | m + 1, v => by
    rw [List.replicate_succ, List.flatten_cons, rep_one m v]
    rfl
theorem cutV_to (xs : List V) (m : Nat) : cutV xs none (some (m : Int)) = xs.take (min m xs.length) := by
  unfold cutV
  rw [HT.sIx_nat]
  show (xs.drop 0).take (min m xs.length - 0) = _
  rw [List.drop_zero, Nat.sub_zero]
theorem rep_map (m : Nat) (l : List Int) : (List.replicate m (l.map V.int)).flatten = ((List.replicate m l).flatten).map V.int := by
  induction m with
  | zero => rfl
  | succ m ih => rw [List.replicate_succ, List.flatten_cons, ih, List.replicate_succ, List.flatten_cons, List.map_append]
section
variable {P : Program} {w : World} {K : PySem.W.Frag} {mg : Str → Option Value} {base : Heap}
def spRSize : Sp := fun vs H Q _ => ∃ (sa : Addr) (n : Nat), vs = [.ref sa] ∧ SrcOk sa n H ∧ n ≤ 800000 ∧ ∀ v H', ExB sa H H' → SrcOk sa (n + 2) H' → IntR 0 1299 v H' → Q v H'
theorem sc__law_random_size : FnScope ["_law_source_here"] ["_law_source_here"] (defScope (topS 92)) := ⟨rfl, rfl, rfl, by decide +kernel, rfl, by decide +kernel, by decide +kernel⟩
theorem ok__law_random_size (g : GF K mg) (D : D0 K mg "_law_random_size" (topS 92)) (c_law_draw : C8.Cal P w K mg base 1 "_law_draw" (spDraw) [])  : C8.Cal P w K mg base 2 "_law_random_size" (spRSize) [] := by
  refine calD D (fun _ _ _ _ _ _ us hl => match us, hl with | [_], _ => rfl) sc__law_random_size (fun vs H Q E h => by obtain ⟨sa, n, rfl, hs, hn, q⟩ := h; rfl) fun f cdv A outer s H vs Q E hr h => ?_
  have hu := hr.units
  have hu1 := hu_of hr
  obtain ⟨sa, n, rfl, hs, hn, q⟩ := h
  refine ⟨_, pss_one (ps_ret (pe_ix (ix_X (K := K)) (pe_lst (pa_cons (pe_int) (pa_cons (pe_int) (pa_cons (pe_int) (pa_cons (pe_int) (pa_cons (pe_int) (pa_cons (pe_int) (pa_cons (pe_int) (pa_cons (C8.pe_c c_law_draw hr (by decide) rfl (pa_cons (pv 0) (pa_cons (pe_int) (pa_nil)))) (pa_nil)))))))))) (C8.pe_c c_law_draw hr (by decide) rfl (pa_cons (pv 0) (pa_cons (pe_int) (pa_nil)))) (fun _ _ => rfl))), ?_⟩
  exact s_retS (k := 2) (R := IntR 0 1299) (es_pickI (cs := [0, 1, 5, 511, 512, 513, 20]) (k := 1) (k1 := 1) hs (by decide) (by decide) (fun H1 e s => es_draw (m := 1300) rfl s (by omega) (by decide) (by decide)) fun H1 e s => es_draw (m := 8) rfl s (by omega) (by decide) (by decide)) q
/-- (bits, time) -/
def StampR (K : PySem.W.Frag) : V → Hp → Prop := fun v H => ∃ (p : Addr) (b t : Int), v = .ref p ∧ H p = some (.tup [.int b, .int t]) ∧ 0 ≤ b ∧ b ≤ 4095 ∧ 0 ≤ t ∧ t ≤ 8589934591
def spStamps (K : PySem.W.Frag) : Sp := fun vs H Q _ => ∃ (sa : Addr) (n : Nat), vs = [.ref sa] ∧ SrcOk sa n H ∧ n ≤ 800000 ∧ ∀ v H', ExB sa H H' → SrcOk sa (n + 4) H' → StampR K v H' → Q v H'
theorem sc__law_stamps : FnScope ["_law_source_here", "_law_bits"] ["_law_source_here"] (defScope (topS 93)) := ⟨rfl, rfl, rfl, by decide +kernel, rfl, by decide +kernel, by decide +kernel⟩
theorem ok__law_stamps (g : GF K mg) (D : D0 K mg "_law_stamps" (topS 93)) (c_law_draw : C8.Cal P w K mg base 1 "_law_draw" (spDraw) [])  : C8.Cal P w K mg base 2 "_law_stamps" (spStamps K) [] := by
  refine calD D (fun _ _ _ _ _ _ us hl => match us, hl with | [_], _ => rfl) sc__law_stamps (fun vs H Q E h => by obtain ⟨sa, n, rfl, hs, hn, q⟩ := h; rfl) fun f cdv A outer s H vs Q E hr h => ?_
  have hu := hr.units
  have hu1 := hu_of hr
  obtain ⟨sa, n, rfl, hs, hn, q⟩ := h
  refine ⟨_, pss_cons (ps_set (i := 1) sc__law_stamps.nd rfl (Or.inl rfl) (pe_ix (ix_X (K := K)) (pe_lst (pa_cons (pe_int) (pa_cons (pe_int) (pa_cons (pe_int) (pa_cons (pe_int) (pa_cons (C8.pe_c c_law_draw hr (by decide) rfl (pa_cons (pv 0) (pa_cons (pe_int) (pa_nil)))) (pa_nil))))))) (C8.pe_c c_law_draw hr (by decide) rfl (pa_cons (pv 0) (pa_cons (pe_int) (pa_nil)))) (fun _ _ => rfl)))
      (pss_one (ps_ret (pe_tup (pa_cons (pv 1) (pa_cons (pe_ix (ix_X (K := K)) (pe_lst (pa_cons (pe_int) (pa_cons (pe_int) (pa_cons (pe_int) (pa_cons (pe_int) (pa_cons (C8.pe_c c_law_draw hr (by decide) rfl (pa_cons (pv 0) (pa_cons (pe_int) (pa_nil)))) (pa_nil))))))) (C8.pe_c c_law_draw hr (by decide) rfl (pa_cons (pv 0) (pa_cons (pe_int) (pa_nil)))) (fun _ _ => rfl)) (pa_nil)))))), ?_⟩
  refine q_asgS (k := 2) (R := IntR 0 4095) (es_pickI (cs := [0, 420, 493, 4095]) (k := 1) (k1 := 1) hs (by decide) (by decide) (fun H1 e s => es_draw (m := 4096) rfl s (by omega) (by decide) (by decide)) fun H1 e s => es_draw (m := 5) rfl s (by omega) (by decide) (by decide)) fun v H1 e1 s1 hv => ?_
  obtain ⟨b, rfl, b0, b1⟩ := hv
  refine s_retS (k := 2) (es_tup (EsA.cons (k := 0) (k1 := 2) (R := fun v _ => v = .int b) (es_var s1 rfl fun _ _ => rfl) (fun _ _ _ _ h => h) fun H2 e2 s2 => EsA.cons (k := 2) (k1 := 0) (R := IntR 0 8589934591) (es_pickI (K := K) (cs := [0, 1, 7, 8589934591]) (k := 1) (k1 := 1) s2 (by decide) (by decide) (fun H1 e s => es_draw (m := 8589934592) rfl s (by omega) (by decide) (by decide)) (fun H1 e s => es_draw (m := 5) rfl s (by omega) (by decide) (by decide))) (intR_sts _ _ _) fun H3 e3 s3 => esa_nil s3) (fun vs H1 h => ?_) (fun vs H1 H2 e h => h)) fun v H3 e3 s3 hv => ?_
  · obtain ⟨_, _, rfl, rfl, _, _, rfl, _, rfl⟩ := h
    exact (by decide : (2 : Nat) ≤ 100000)
  · obtain ⟨p, xs, rfl, hp, h1, _, _, rfl, rfl, _, _, rfl, ⟨t, rfl, t0, t1⟩, rfl⟩ := hv
    exact q _ _ (e1.trans e3) s3 ⟨p, b, t, rfl, h1, b0, b1, t0, t1⟩
/-- a list of bytes' numbers -/
def BytR (av : Addr → Prop) (m : Nat) : V → Hp → Prop := fun v H => ∃ (p : Addr) (ns : List Int), v = .ref p ∧ ¬ av p ∧ H p = some (.lst (ns.map V.int)) ∧ (∀ x ∈ ns, inByte x) ∧ ns.length ≤ m
theorem BytR.exA {av : Addr → Prop} {m : Nat} {v : V} {H H' : Hp} (e : ExA av H H') : BytR av m v H → BytR av m v H' := fun ⟨p, ns, h1, h2, h3, h4⟩ => ⟨p, ns, h1, h2, e _ _ h2 h3, h4⟩
theorem BytR.av {av av' : Addr → Prop} {m : Nat} {v : V} {H : Hp} (e : ∀ a, av' a → av a) : BytR av m v H → BytR av' m v H := fun ⟨p, ns, h1, h2, h3⟩ => ⟨p, ns, h1, fun h => h2 (e p h), h3⟩
def spRNums : Sp := fun vs H Q _ => ∃ (sa : Addr) (n m : Nat), vs = [.ref sa, .int (m : Int)] ∧ SrcOk sa n H ∧ n ≤ 800000 ∧ m ≤ 5000 ∧ ∀ v H', ExB sa H H' → SrcOk sa (n + 3) H' → BytR (Old H) m v H' → Q v H'
theorem sc__law_random_numbers : FnScope ["_law_source_here", "_law_many", "_law_first", "_law_step", "_law_way", "_law_k"] ["_law_source_here", "_law_many"] (defScope (topS 91)) := ⟨rfl, rfl, rfl, by decide +kernel, rfl, by decide +kernel, by decide +kernel⟩
theorem ok__law_random_numbers (g : GF K mg) (D : D0 K mg "_law_random_numbers" (topS 91)) (c_law_draw : C8.Cal P w K mg base 1 "_law_draw" (spDraw) [])  : C8.Cal P w K mg base 2 "_law_random_numbers" (spRNums) [] := by
  refine calD D (fun _ _ _ _ _ _ us hl => match us, hl with | [_, _], _ => rfl) sc__law_random_numbers (fun vs H Q E h => by obtain ⟨sa, n, m, rfl, hs, hn, hm, q⟩ := h; rfl) fun f cdv A outer s H vs Q E hr h => ?_
  have hu := hr.units
  have hu1 := hu_of hr
  obtain ⟨sa, n, m, rfl, hs, hn, hm, q⟩ := h
  refine ⟨_, pss_cons (ps_asg (pe_tup (pa_cons (C8.pe_c c_law_draw hr (by decide) rfl (pa_cons (pv 0) (pa_cons (pe_int) (pa_nil)))) (pa_cons (C8.pe_c c_law_draw hr (by decide) rfl (pa_cons (pv 0) (pa_cons (pe_int) (pa_nil)))) (pa_cons (C8.pe_c c_law_draw hr (by decide) rfl (pa_cons (pv 0) (pa_cons (pe_int) (pa_nil)))) (pa_nil))))) (pg_tupK (K := K) (n := 3) rfl (pgs_cons (pg_name (i := 2) sc__law_random_numbers.nd rfl (Or.inr rfl)) (pgs_cons (pg_name (i := 3) sc__law_random_numbers.nd rfl (Or.inr rfl)) (pgs_cons (pg_name (i := 4) sc__law_random_numbers.nd rfl (Or.inl rfl)) (pgs_nil))))))
      (pss_cons (ps_if (pt_cmpR (op_eqX (K := K) hu) (pv 4) (pe_int) (nomark _)) (pss_one (ps_ret (pe_op op_mulX (pe_lst (pa_cons (pe_int) (pa_nil))) (pv 1)))) (pss_nil))
      (pss_cons (ps_if (pt_cmpR (op_eqX (K := K) hu) (pv 4) (pe_int) (nomark _)) (pss_one (ps_ret (pe_lc (own := [("_law_k", 5)]) (tt := tYes) rfl sc__law_random_numbers.nd (pi_range1 rfl g.n_range (pa_cons (pv 1) pa_nil)) (blkOk_by (N := ["_law_source_here", "_law_many", "_law_first", "_law_step", "_law_way", "_law_k"]) (sc := defScope (topS 91)) (by decide +kernel)) (fun _ _ _ _ _ => pg_name (i := 5) sc__law_random_numbers.nd rfl (Or.inl rfl)) (fun _ _ _ _ _ => pts_nil) (fun _ _ _ _ _ => pe_op op_modX (pe_callTy cr_intX rfl g.n_int bo_int (pa_cons (pe_op op_addX (pv 2) (pe_op op_mulX (pv 3) (pv 5))) (pa_nil))) (pe_int))))) (pss_nil))
      (pss_one (ps_ret (pe_slice (sl_X (K := K)) (pe_op op_mulX (pe_lst (pa_cons (pe_int) (pa_cons (pv 2) (pa_cons (pe_int) (pa_cons (pe_int) (pa_cons (pv 3) (pa_cons (pe_int) (pa_cons (pe_int) (pa_nil))))))))) (pe_op op_addX (pe_op op_divX (pv 1) (pe_int)) (pe_int))) (po_none) (po_some (pv 1))))))), ?_⟩
  refine q_asgP3S (K := K) (n := n) (k := 3) (R := fun x y z _ => IntR 0 255 x H ∧ IntR 0 255 y H ∧ IntR 0 2 z H) ((es_tup (EsA.cons (k := 1) (k1 := 2) (es_draw (m := 256) rfl hs (by omega) (by decide) (by decide)) (intR_sts _ _ _) fun H1 e1 s1 => EsA.cons (k := 1) (k1 := 1) (es_draw (m := 256) rfl s1 (by omega) (by decide) (by decide)) (intR_sts _ _ _) fun H2 e2 s2 => EsA.cons (k := 1) (k1 := 0) (es_draw (m := 3) rfl s2 (by omega) (by decide) (by decide)) (intR_sts _ _ _) fun H3 e3 s3 => esa_nil s3) (fun vs H1 h => ?_) (fun vs H1 H2 e h => h)).imp fun v H1 e1 hv => ?_) fun x y z H1 e1 s1 hv => ?_
  · obtain ⟨_, _, rfl, _, _, _, rfl, _, _, _, rfl, _, rfl⟩ := h
    exact (by decide : (3 : Nat) ≤ 100000)
  · obtain ⟨p, xs, rfl, hp, h1, _, _, rfl, ha, _, _, rfl, hb, _, _, rfl, hc, rfl⟩ := hv
    exact ⟨p, _, _, _, rfl, st_of h1, ha, hb, hc⟩
  · obtain ⟨⟨a, rfl, a0, a1⟩, ⟨b, rfl, b0, b1⟩, ⟨c, rfl, c0, c1⟩⟩ := hv
    have out : ∀ {te : TE} {σ : L2.St} {H2 : Hp} {D : Ends} {ns : List Int}, D.rt = Q → Ex H1 H2 → EvL te σ H2 (ns.map V.int) → (∀ x ∈ ns, inByte x) → ns.length ≤ m → tRet te D σ H2 := fun {te σ H2 D ns} hD e2 hv hb hl => by
      refine s_retR (R := BytR (Old H) m) (Er.ofL hv fun p H3 hp e3 h3 => ⟨p, ns, rfl, back_none (e1.trans (ExB.of e2)) (s1.ex e2) hp, h3, hb, hl⟩) fun v H3 e3 hv => ?_
      rw [hD]
      exact q v H3 (e1.trans (ExB.of (e2.trans e3))) (s1.ex (e2.trans e3)) hv
    refine q_when (et_test (ev_op (ev_var rfl) ev_c rv_eqI)) (fun hb H2 e2 => out (ns := List.replicate m 0) rfl e2 ?_ (fun x hx => by rw [List.eq_of_mem_replicate hx]; exact ⟨by decide, by decide⟩) (by rw [List.length_replicate]; exact Nat.le_refl _)) fun hb H2 e2 => ?_
    · have g := el_repL (σ := [some (.ref sa), some (.int (m : Int)), some (.int a), some (.int b), some (.int c), none]) (H := H2) (ta := tLst (tCons (tC (.int 0)) tNil)) (tb := tVar 1) (xs := [.int 0]) (m := (m : Int)) (el_lst (ea_cons ev_c ea_nil) (by simp)) (ev_var rfl) (by omega) (by simp; omega)
      have e0 : (List.replicate (m : Int).toNat [V.int 0]).flatten = (List.replicate m (0 : Int)).map V.int := by
        rw [Int.toNat_natCast, List.map_replicate]
        exact rep_one m _
      rw [e0] at g
      exact g
    · refine q_when (et_test (ev_op (ev_var rfl) ev_c rv_eqI)) (fun hb2 H3 e3 => out (ns := (List.range m).map fun i : Nat => (a + b * (i : Int)) % 256) rfl (e2.trans e3) ?_ (fun x hx => ?_) (by simp)) fun hb2 H3 e3 => ?_
      · have g := el_lcR1 (σ := [some (.ref sa), some (.int (m : Int)), some (.int a), some (.int b), some (.int c), none]) (H := H3) (ta := tCons (tVar 1) tNil) (te := tOp rModX (tCB rIntX (tCons (tOp rAddX (tVar 2) (tOp rMulX (tVar 3) (tVar 5))) tNil)) (tC (.int 256))) (t := tYes) (j := 5) (vs := [5]) (n := (m : Int)) (fun _ => true) (fun i => V.int ((a + b * (i : Int)) % 256)) (ea_cons (ev_var rfl) ea_nil) (by omega) (fun _ => rfl) (fun i H1 e hi => et_yes) fun i H1 e hi _ => ev_op (ev_cb1 (ev_op (ev_var rfl) (ev_op (ev_var rfl) (ev_var rfl) (rv_mulI (wide_mul (a := 20) (b := 40) (by omega) (by omega) (by decide) (by decide) (by decide)))) rv_addI) rc_int1) ev_c (rv_modI (by decide))
        rw [Int.toNat_natCast, given_all] at g
        rw [List.map_map]
        exact g
      · obtain ⟨i, _, rfl⟩ := List.mem_map.mp hx
        have := mod_in (x := a + b * (i : Int)) (m := 256) (by decide)
        exact ⟨this.1, by omega⟩
      · have hdiv : CDivW (m : Int) 7 := wide_div (b := 10) (by decide) (by decide) (by decide) (by decide)
        have hlen : ((List.replicate (m / 7 + 1) ([0, a, 1, 255, b, 0, 0] : List Int)).flatten).length = (m / 7 + 1) * 7 := by simp
        refine out (ns := ((List.replicate (m / 7 + 1) ([0, a, 1, 255, b, 0, 0] : List Int)).flatten).take (min m ((m / 7 + 1) * 7))) rfl (e2.trans e3) ?_ (fun x hx => ?_) ?_
        · have g := el_slN (K := K) (σ := [some (.ref sa), some (.int (m : Int)), some (.int a), some (.int b), some (.int c), none]) (H := H3) (lo := none) (hi := some (m : Int)) (el_repL (ta := tLst (tCons (tC (.int 0)) (tCons (tVar 2) (tCons (tC (.int 1)) (tCons (tC (.int 255)) (tCons (tVar 3) (tCons (tC (.int 0)) (tCons (tC (.int 0)) tNil)))))))) (tb := tOp rAddX (tOp rDivX (tVar 1) (tC (.int 7))) (tC (.int 1))) (xs := ([0, a, 1, 255, b, 0, 0] : List Int).map V.int) (m := (m : Int) / 7 + 1) (el_lst (ea_cons ev_c (ea_cons (ev_var rfl) (ea_cons ev_c (ea_cons ev_c (ea_cons (ev_var rfl) (ea_cons ev_c (ea_cons ev_c ea_nil))))))) (by simp)) (ev_op (ev_op (ev_var rfl) ev_c (rv_divI hdiv)) ev_c rv_addI) (by omega) (by simp; omega)) eo_none (eo_n (te := tVar 1) (n := m) (ev_var rfl))
          have e0 : ((m : Int) / 7 + 1).toNat = m / 7 + 1 := by omega
          rw [e0, rep_map, cutV_to, List.length_map, hlen, ← List.map_take] at g
          exact g
        · have hx2 := List.mem_of_mem_take hx
          obtain ⟨l, hl, hx3⟩ := List.mem_flatten.mp hx2
          rw [List.eq_of_mem_replicate hl] at hx3
          simp only [List.mem_cons, List.not_mem_nil, or_false] at hx3
          unfold inByte
          omega
        · rw [List.length_take, hlen]
          omega
end
end Tar

/-! TaQ4 -/
set_option Elab.async false
set_option linter.all false
set_option maxRecDepth 100000
set_option maxHeartbeats 400000
/-! the drawing defs, 4: spans -/
namespace Tar
open PySem PySem.Spec PyProof.Rows L2 Evl
def EsT (tt : TT) (σ : L2.St) (sa : Addr) (n : Nat) (H : Hp) (k : Nat) (R : Bool → Prop) : Prop := ∀ Q : Bool → Hp → Prop, (∀ b H', ExB sa H H' → SrcOk sa (n + k) H' → R b → Q b H') → tt σ H Q
section
variable {K : PySem.W.Frag} {σ : L2.St} {H : Hp} {sa : Addr} {n k k1 k2 : Nat} {te ta tb : TE} {t u : TT} {R : Bool → Prop} {D : Ends} {tz tu tw : TS} {i j : Nat}
theorem est_eq {m lo hi : Int} (h : Es te σ sa n H k (IntR lo hi)) : EsT (tTest (tOp (rEqX K) te (tC (.int m)))) σ sa n H k (fun _ => True) := fun Q q =>
  h _ fun v H1 e s ⟨r, ev, _, _⟩ => by
    subst ev
    exact rv_eqI H1 (Ex.refl _) _ fun H2 e2 => ⟨_, rfl, q _ H2 (e.trans (ExB.of e2)) (s.ex e2) True.intro⟩
theorem est_or {b1 : Bool} (s : SrcOk sa n H) (h1 : EvT t σ H b1) (h2 : b1 = false → ∀ H1, ExB sa H H1 → SrcOk sa n H1 → EsT u σ sa n H1 k (fun _ => True)) : EsT (tOr t u) σ sa n H k (fun b => b = false → b1 = false) := fun Q q =>
  h1 H (Ex.refl _) _ fun H1 e1 => by
    cases b1 with
    | true =>
      show Q true H1
      exact q true H1 (ExB.of e1) ((s.ex e1).mono (Nat.le_add_right _ _)) fun h => by cases h
    | false =>
      show u σ H1 Q
      exact h2 rfl H1 (ExB.of e1) (s.ex e1) Q fun b H2 e2 s2 _ => q b H2 ((ExB.of e1).trans e2) s2 fun _ => rfl
theorem q_whenS (h : EsT t σ sa n H k R) (h1 : ∀ H1, ExB sa H H1 → SrcOk sa (n + k) H1 → tu { D with nx := tz D } σ H1) (h2 : R false → ∀ H1, ExB sa H H1 → SrcOk sa (n + k) H1 → tz D σ H1) : tSeq (tIfS t tu tNext) tz D σ H :=
  h _ fun b H1 e s r => by
    cases b with
    | true => exact h1 H1 e s
    | false => exact h2 r H1 e s
end
/-- pairs of ints, tracked -/
def SpI (sa : Addr) (H : Hp) (as : List Addr) (ss : List (Int × Int)) : Prop := as.length = ss.length ∧ ∀ (i : Nat) (p : Addr) (z : Int × Int), as[i]? = some p → ss[i]? = some z → p ≠ sa ∧ H p = some (.tup [.int z.1, .int z.2])
theorem SpI.exB {sa : Addr} {H H' : Hp} {as : List Addr} {ss : List (Int × Int)} (e : ExB sa H H') (h : SpI sa H as ss) : SpI sa H' as ss := ⟨h.1, fun i p z hp hz => ⟨(h.2 i p z hp hz).1, e _ _ (h.2 i p z hp hz).1 (h.2 i p z hp hz).2⟩⟩
theorem SpI.upd {sa : Addr} {H : Hp} {as : List Addr} {ss : List (Int × Int)} {l : Addr} {us vs : List V} (h : SpI sa H as ss) (hl : H l = some (.lst us)) : SpI sa (L2.upd H l (.lst vs)) as ss := ⟨h.1, fun i p z hp hz => ⟨(h.2 i p z hp hz).1, by
  have h1 := (h.2 i p z hp hz).2
  rw [upd_ne (fun e => by rw [e, hl] at h1; cases h1)]
  exact h1⟩⟩
theorem SpI.snoc {sa : Addr} {H : Hp} {as : List Addr} {ss : List (Int × Int)} {p : Addr} {z : Int × Int} (h : SpI sa H as ss) (hp : p ≠ sa) (h1 : H p = some (.tup [.int z.1, .int z.2])) : SpI sa H (as ++ [p]) (ss ++ [z]) := by
  refine ⟨by simp [h.1], fun i q y hi hy => ?_⟩
  have hl := h.1
  by_cases hlt : i < as.length
  · rw [List.getElem?_append_left hlt] at hi
    rw [List.getElem?_append_left (by omega)] at hy
    exact h.2 i q y hi hy
  · rw [List.getElem?_append_right (by omega)] at hi hy
    have h0 : i - as.length = 0 := by
      have := (List.getElem?_eq_some_iff.mp hi).1
      simp at this
      omega
    rw [h0] at hi
    rw [← hl, h0] at hy
    cases hi
    cases hy
    exact ⟨hp, h1⟩
def okSp (s : Int × Int) : Prop := 0 ≤ s.1 ∧ s.1 ≤ 5000 ∧ 1 ≤ s.2 ∧ s.2 ≤ 300
def SpansL (sa : Addr) : V → Hp → Prop := fun v H => ∃ (l : Addr) (as : List Addr) (ss : List (Int × Int)), v = .ref l ∧ l ≠ sa ∧ H l = some (.lst (as.map V.ref)) ∧ SpI sa H as ss ∧ ss.length ≤ 6 ∧ ∀ s ∈ ss, okSp s
theorem spansL_sts (sa : Addr) : StS sa (SpansL sa) := fun v H H' e ⟨l, as, ss, h1, h2, h3, h4, h5⟩ => ⟨l, as, ss, h1, h2, e _ _ h2 h3, h4.exB e, h5⟩
section
variable {P : Program} {w : World} {K : PySem.W.Frag} {mg : Str → Option Value} {base : Heap}
def spRSpans : Sp := fun vs H Q _ => ∃ (sa : Addr) (n : Nat) (z : Int), vs = [.ref sa, .int z] ∧ SrcOk sa n H ∧ n ≤ 800000 ∧ 0 ≤ z ∧ z ≤ 4096 ∧ ∀ v H', ExB sa H H' → SrcOk sa (n + 35) H' → SpansL sa v H' → Q v H'
theorem sc__law_random_spans : FnScope ["_law_source_here", "_law_size", "_law_found", "_law_end", "_law_begin", "_law_length"] ["_law_source_here", "_law_size"] (defScope (topS 94)) := ⟨rfl, rfl, rfl, by decide +kernel, rfl, by decide +kernel, by decide +kernel⟩
theorem ok__law_random_spans (g : GF K mg) (D : D0 K mg "_law_random_spans" (topS 94)) (c_law_draw : C8.Cal P w K mg base 1 "_law_draw" (spDraw) [])  : C8.Cal P w K mg base 2 "_law_random_spans" (spRSpans) [] := by
  refine calD D (fun _ _ _ _ _ _ us hl => match us, hl with | [_, _], _ => rfl) sc__law_random_spans (fun vs H Q E h => by obtain ⟨sa, n, z, rfl, hs, hn, hz0, hz1, q⟩ := h; rfl) fun f cdv A outer s H vs Q E hr h => ?_
  have hu := hr.units
  have hu1 := hu_of hr
  obtain ⟨sa, n, z, rfl, hs, hn, hz0, hz1, q⟩ := h
  refine ⟨_, pss_cons (ps_par (i := 2) (j := 3) rfl sc__law_random_spans.nd rfl rfl (by decide) rfl rfl (pa_cons (pe_lst (pa_nil)) (pa_cons (pe_int) (pa_nil))) rfl)
      (pss_cons (ps_while PassesOwn.never (pt_cmpR op_lt (pe_callB (cr_lenX (K := K)) rfl g.n_len bo_len (pa_cons (pv 2) (pa_nil))) (pe_int) (nomark _))
      (pss_cons (ps_set (i := 4) sc__law_random_spans.nd rfl (Or.inl rfl) (pe_op op_addX (pv 3) (C8.pe_c c_law_draw hr (by decide) rfl (pa_cons (pv 0) (pa_cons (pe_ix (ix_X (K := K)) (pe_lst (pa_cons (pe_int) (pa_cons (pe_int) (pa_nil)))) (C8.pe_c c_law_draw hr (by decide) rfl (pa_cons (pv 0) (pa_cons (pe_int) (pa_nil)))) (fun _ _ => rfl)) (pa_nil))))))
      (pss_cons (ps_set (i := 5) sc__law_random_spans.nd rfl (Or.inl rfl) (pe_op op_addX (pe_int) (C8.pe_c c_law_draw hr (by decide) rfl (pa_cons (pv 0) (pa_cons (pe_ix (ix_X (K := K)) (pe_lst (pa_cons (pe_int) (pa_cons (pe_int) (pa_nil)))) (C8.pe_c c_law_draw hr (by decide) rfl (pa_cons (pv 0) (pa_cons (pe_int) (pa_nil)))) (fun _ _ => rfl)) (pa_nil))))))
      (pss_cons (ps_if (PW.pt (pw_or (pt_cmpR op_gt (pe_op op_addX (pv 4) (pv 5)) (pv 1) (nomark _)) (pw_or1 (pt_cmpR (op_eqX (K := K) hu) (C8.pe_c c_law_draw hr (by decide) rfl (pa_cons (pv 0) (pa_cons (pe_int) (pa_nil)))) (pe_int) (nomark _))))) (pss_one (ps_ret (pv 2))) (pss_nil))
      (pss_cons (ps_expr (pe_bm PySem.F.plainAttrs_list PySem.F.slot_list_append PySem.F.type_list_append mt_append (pv 2) (pa_cons (pe_tup (pa_cons (pv 4) (pa_cons (pv 5) (pa_nil)))) (pa_nil))))
      (pss_one (ps_set (i := 3) sc__law_random_spans.nd rfl (Or.inl rfl) (pe_op op_addX (pe_op op_addX (pv 4) (pv 5)) (pe_int)))))))))
      (pss_one (ps_ret (pv 2)))), ?_⟩
  refine el_lst2 fun l H1 hl e1 h1 => ?_
  have hls := hs.ne hl
  refine q_while (fun m σ' H' => ∃ (as : List Addr) (ss : List (Int × Int)) (e : Int) (x4 x5 : Option V), m + ss.length = 6 ∧ σ' = [some (.ref sa), some (.int z), some (.ref l), some (.int e), x4, x5] ∧ ExB sa H H' ∧ SrcOk sa (n + 5 * ss.length) H' ∧ H' l = some (.lst (as.map V.ref)) ∧ SpI sa H' as ss ∧ (∀ s ∈ ss, okSp s) ∧ 0 ≤ e ∧ e ≤ 4097) 6
    ⟨[], [], 0, _, _, rfl, rfl, ExB.of e1, hs.ex e1, h1, ⟨rfl, fun i p z hp => by cases hp⟩, fun s h => (by cases h), by decide, by decide⟩ fun m σ' H' hw => ?_
  obtain ⟨as, ss, e, x4, x5, hm, rfl, eH, sH, hlst, hsp, hok, h0, hb⟩ := hw
  have hlen : (as.map V.ref).length = ss.length := by rw [List.length_map, hsp.1]
  refine ⟨decide (ss.length < 6), et_is (et_test (ev_op (ev_cb1 (ev_var rfl) (rc_lenL (sq_of hlst))) ev_c rv_lt)) (by rw [hlen, decide_eq_decide]; omega), fun hlt H2 e2 => ?_, fun hlt H2 e2 => ?_⟩
  · have hlt6 := of_decide_eq_true hlt
    have s2 := sH.ex e2
    refine ⟨fun σ2 H3 => ∃ m', m' < m ∧ ∃ (as : List Addr) (ss : List (Int × Int)) (e : Int) (x4 x5 : Option V), m' + ss.length = 6 ∧ σ2 = [some (.ref sa), some (.int z), some (.ref l), some (.int e), x4, x5] ∧ ExB sa H H3 ∧ SrcOk sa (n + 5 * ss.length) H3 ∧ H3 l = some (.lst (as.map V.ref)) ∧ SpI sa H3 as ss ∧ (∀ s ∈ ss, okSp s) ∧ 0 ≤ e ∧ e ≤ 4097, fun σ2 H3 h => h, ?_⟩
    have pick : ∀ {σ : L2.St} {H' : Hp} {n' : Nat} {c d : Int}, SrcOk sa n' H' → n' ≤ 900000 → σ[0]? = some (some (.ref sa)) → 1 ≤ c ∧ c ≤ d ∧ d ≤ 300 → Es (tCall spDraw [] C8.E0 (tCons (tVar 0) (tCons (tOp (rIx K) (tLst (tCons (tC (.int c)) (tCons (tC (.int d)) tNil))) (tCall spDraw [] C8.E0 (tCons (tVar 0) (tCons (tC (.int 2)) tNil)))) tNil))) σ sa n' H' 2 (IntR 0 (d - 1)) := fun {σ H' n' c d} s hn' h0 hcd =>
      es_drawE (k := 1) (M := d) h0 s (by omega) (by omega) fun H1 e1 s1 => es_pickC (vs := [.int c, .int d]) (okInt 1 d) s1 (ea_cons ev_c (ea_cons ev_c ea_nil)) (by simp) (by simp [okInt]; omega) (fun H1 e s => es_draw (m := 2) h0 s (by omega) (by decide) (by decide)) fun v H1 h => okInt_in h
    refine q_asgS (n := n + 5 * ss.length) (k := 2) (R := IntR (e + 0) (e + (200 - 1))) (es_addI (k := 0) (k1 := 2) (es_var s2 rfl fun _ _ => ⟨e, rfl, Int.le_refl _, Int.le_refl _⟩) fun H1 e1 s1 => pick s1 (by omega) rfl (by decide)) fun v H3 e3 s3 hv => ?_
    obtain ⟨b, rfl, b0, b1⟩ := hv
    refine q_asgS (n := n + 5 * ss.length + 2) (k := 2) (R := IntR (1 + 0) (1 + (300 - 1))) (es_addI (k := 0) (k1 := 2) (es_int (z := 1) s3 (by decide)) fun H1 e1 s1 => pick s1 (by omega) rfl (by decide)) fun v H4 e4 s4 hv => ?_
    obtain ⟨c, rfl, c0, c1⟩ := hv
    have e24 := (ExB.of e2).trans (e3.trans e4)
    refine q_whenS (n := n + 5 * ss.length + 2 + 2) (k := 1) (est_or s4 (et_test (ev_op (ev_op (ev_var rfl) (ev_var rfl) rv_addI) (ev_var rfl) rv_gt)) fun hb1 H1 e1 s1 => est_eq (es_draw (m := 5) rfl s1 (by omega) (by decide) (by decide))) (fun H5 e5 s5 => s_ret (ev_var rfl) fun H6 e6 => ?_) fun hno H5 e5 s5 => ?_
    · have e26 := (e24.trans e5).trans (ExB.of e6)
      exact q _ _ (eH.trans e26) ((s5.ex e6).mono (by omega)) ⟨l, as, ss, rfl, hls, e26 _ _ hls hlst, hsp.exB e26, by omega, hok⟩
    · have hle : ¬ z < b + c := of_decide_eq_false (hno rfl)
      have e25 := e24.trans e5
      have hl5 := e25 _ _ hls hlst
      have hsp5 := hsp.exB e25
      refine q_appU (K := K) hl5 (ev_var rfl) (eu_tup (ea_cons (ev_var rfl) (ea_cons (ev_var rfl) ea_nil)) (by simp)) (by omega) fun p H6 hp e6 h6 => ?_
      have hlp : l ≠ p := fun e => by rw [← e, hl5] at hp; cases hp
      have s6 := s5.ex e6
      have sU : ∀ {xs : List V}, SrcOk sa (n + 5 * (ss.length + 1)) (upd H6 l (.lst xs)) := fun {xs} => by
        obtain ⟨a1, a2, a3, g1, g2⟩ := s6
        exact SrcOk.mono ⟨a1, a2, a3, by rw [upd_ne (Ne.symm hls)]; exact g1, g2⟩ (by omega)
      refine s_asg (v := .int (b + c + 1)) (ev_op (ev_op (ev_var rfl) (ev_var rfl) rv_addI) ev_c rv_addI) fun H7 e7 => ⟨m - 1, by omega, as ++ [p], ss ++ [(b, c)], b + c + 1, _, _, by rw [List.length_append]; show m - 1 + (ss.length + 1) = 6; omega, rfl, ?_, ?_, ?_, ?_, ?_, by omega, by omega⟩
      · exact fun a o ha ho => e7 _ _ (by
          rw [upd_ne (ne_of_none ho hl)]
          exact e6 _ _ ((eH.trans e25) a o ha ho))
      · rw [List.length_append]
        exact sU.ex e7
      · rw [List.map_append]
        exact e7 _ _ upd_same
      · refine SpI.exB (ExB.of e7) (SpI.snoc ((hsp5.exB (ExB.of e6)).upd (e6 _ _ hl5)) (s5.ne hp) ?_)
        rw [upd_ne (Ne.symm hlp)]
        exact h6
      · intro s hs
        rcases List.mem_append.mp hs with h | h
        · exact hok s h
        · rw [List.mem_singleton.mp h]
          exact ⟨by show 0 ≤ b; omega, by show b ≤ 5000; omega, by show 1 ≤ c; omega, by show c ≤ 300; omega⟩
  · have hge := of_decide_eq_false hlt
    refine s_ret (ev_var rfl) fun H3 e3 => q _ _ (eH.trans (ExB.of (e2.trans e3))) ((sH.ex (e2.trans e3)).mono (by omega)) ⟨l, as, ss, rfl, hls, (e2.trans e3) _ _ hlst, hsp.exB (ExB.of (e2.trans e3)), by omega, hok⟩
end
end Tar

/-! TaQ5 -/
set_option Elab.async false
set_option linter.all false
set_option maxRecDepth 100000
set_option maxHeartbeats 400000
/-! the drawing defs, 5: members, lists of members -/
namespace Tar
open PySem PySem.Spec PyProof.Rows L2 Evl
section
variable {K : PySem.W.Frag} {σ : L2.St} {H : Hp} {sa : Addr} {n k k1 k2 : Nat} {te ta tb : TE} {R R1 Rb : V → Hp → Prop} {D : Ends} {tz tu tw : TS} {i j : Nat}
theorem es_pickM {t : TA} {vs : List V} (s : SrcOk sa n H) (h : EvA t σ H vs) (hN : vs.length ≤ 1000) (h2 : ∀ H1, ExB sa H H1 → SrcOk sa n H1 → Es tb σ sa n H1 k1 (IntR 0 ((vs.length : Int) - 1))) : Es (tOp (rIx K) (tLst t) tb) σ sa n H k1 (fun v _ => v ∈ vs) := by
  have g := es_pick (K := K) (k := 0) (k1 := k1) (R := fun v _ => v ∈ vs) (tb := tb) (N := vs.length) (EsA.of s h) (fun us H1 e => by rw [e]) (by omega) (fun us H1 H2 _ e => e) h2 (fun us v H1 e hm => by rw [← e]; exact hm)
  rw [Nat.zero_add] at g
  exact g
/-- [..] + [..] -/
theorem es_catL {RA RB : List V → Hp → Prop} (h : Es ta σ sa n H k (LstR sa RA)) (sta : StA sa RA) (stb : StA sa RB) (hl : ∀ vs H1, RA vs H1 → vs.length ≤ 100000) (hl2 : ∀ vs H1, RB vs H1 → vs.length ≤ 100000) (h2 : ∀ H1, ExB sa H H1 → SrcOk sa (n + k) H1 → Es tb σ sa (n + k) H1 k1 (LstR sa RB)) : Es (tOp rAddX ta tb) σ sa n H (k + k1) (LstA (Old H) (fun vs H1 => ∃ x y, vs = x ++ y ∧ RA x H1 ∧ RB y H1)) := fun Q q =>
  h _ fun v H1 e s hv => h2 H1 e s _ fun u H2 e2 s2 hu => by
    obtain ⟨p, xs, rfl, hp, h1, ra⟩ := lstR_sts sta _ _ _ e2 hv
    obtain ⟨p2, ys, rfl, hp2, h3, rb⟩ := hu
    have l1 := hl _ _ ra
    have l2 := hl2 _ _ rb
    refine .inr (.inr (.inr ⟨p, p2, xs, ys, rfl, rfl, h1, h3, by rw [sizeLine_eq]; omega, fun r hr => q _ _ ((e.trans e2).trans (ExB.of (Ex.new hr))) ?_ ⟨r, _, rfl, back_none (e.trans e2) s2 hr, upd_same, xs, ys, rfl, sta _ _ _ (ExB.of (Ex.new hr)) ra, stb _ _ _ (ExB.of (Ex.new hr)) rb⟩⟩))
    rw [← Nat.add_assoc]
    exact s2.ex (Ex.new hr)
theorem es_tupN {t : TA} {RA : List V → Hp → Prop} (h : EsA t σ sa n H k RA) (hl : ∀ vs H1, RA vs H1 → vs.length ≤ 100000) (st : StA sa RA) : Es (tTup t) σ sa n H k (fun v H1 => ∃ p xs, v = .ref p ∧ ¬ Old H p ∧ H1 p = some (.tup xs) ∧ RA xs H1) := fun Q q =>
  h _ fun vs H1 e s ra => ⟨sz_of (hl vs H1 ra), fun p hp => q _ _ (e.trans (ExB.of (Ex.new hp))) (s.ex (Ex.new hp)) ⟨p, vs, rfl, back_none e s hp, upd_same, st _ _ _ (ExB.of (Ex.new hp)) ra⟩⟩
theorem es_repL {RA : List V → Hp → Prop} {m : Nat} (h : Es ta σ sa n H k (LstR sa RA)) (sta : StA sa RA) (hl : ∀ vs H1, RA vs H1 → vs.length ≤ 1000) (hm : m ≤ 1000) (h2 : ∀ H1, ExB sa H H1 → SrcOk sa (n + k) H1 → Ev tb σ H1 (.int (m : Int))) : Es (tOp rMulX ta tb) σ sa n H k (LstR sa (fun vs H1 => ∃ x, vs = (List.replicate m x).flatten ∧ RA x H1)) := fun Q q =>
  h _ fun v H1 e s hv => h2 H1 e s H1 (Ex.refl _) _ fun H2 e2 => by
    obtain ⟨p, xs, rfl, hp, h1, ra⟩ := hv
    have l1 := hl _ _ ra
    have hmul : xs.length * m ≤ 1000 * 1000 := Nat.mul_le_mul l1 hm
    refine .inr (.inl ⟨p, (m : Int), xs, rfl, rfl, e2 _ _ h1, by omega, by omega, by rw [sizeLine_eq, Int.toNat_natCast]; omega, fun r hr => q _ _ ((e.trans (ExB.of e2)).trans (ExB.of (Ex.new hr))) ((s.ex e2).ex (Ex.new hr)) ⟨r, _, rfl, (s.ex e2).ne hr, upd_same, xs, by rw [Int.toNat_natCast], sta _ _ _ ((ExB.of e2).trans (ExB.of (Ex.new hr))) ra⟩⟩)
end
/-- a relation of values that hold lists: av is what they avoid -/
structure AvR (Rv : (Addr → Prop) → V → Hp → Prop) : Prop where
  ex : ∀ {av : Addr → Prop} {v : V} {H H' : Hp}, ExA av H H' → Rv av v H → Rv av v H'
  mono : ∀ {av av' : Addr → Prop} {v : V} {H : Hp}, (∀ a, av' a → av a) → Rv av v H → Rv av' v H
section
variable {K : PySem.W.Frag} {σ : L2.St} {H : Hp} {sa : Addr} {n k k1 k2 : Nat} {te ta tb : TE} {Rv : (Addr → Prop) → V → Hp → Prop} {D : Ends} {tz tu tw : TS} {i j : Nat}
/-- a comprehension whose turns draw -/
theorem es_lcS {J : Nat → It} {G : Hp → Prop} {Y : Nat → Hp → V → Hp → Prop} {wi : TI} {g : TG} {vs : List Nat} {k0 c M : Nat} (A : AvR Rv) (s0 : SrcOk sa n H) (Mok : Nat → Prop) (Sg : Nat → L2.St → Prop) (hM : ∀ m, Mok m → m ≤ M) (hMz : M ≤ 1000)
    (wk : ∀ m, Mok m → Walk (J m) m G Y) (h : ∀ Rr : It → Hp → Prop, (∀ m H2, Mok m → ExB sa H H2 → SrcOk sa (n + k0) H2 → Rr (J m) H2) → wi σ H Rr) (hG : ∀ H', ExB sa H H' → G H')
    (hg : ∀ i x H1 H2 (Qc : L2.St → Hp → Prop), ExB sa H H1 → Y i H1 x H2 → (∀ s2, Sg i s2 → Qc s2 H1) → g x (wipe σ vs) H2 Qc)
    (hw : ∀ i s2, Sg i s2 → wipe s2 vs = wipe σ vs) (he : ∀ i s2 n1 H1, Sg i s2 → ExB sa H H1 → n1 ≤ n + k0 + c * M → SrcOk sa n1 H1 → Es te s2 sa n1 H1 c (Rv (Old H1))) :
    Es (tLc wi g tYes te vs) σ sa n H (k0 + c * M) (LstA (Old H) (fun xs H1 => xs.length ≤ M ∧ ∀ x ∈ xs, Rv (Old H) x H1)) := fun Q q =>
  h _ fun m H1 hm e1 s1 Dl hD => by
    have hDs := s1.ne hD
    have hmM := hM m hm
    have hDo := back_none e1 s1 hD
    have hsa := old_src s0
    refine lc_it (wk m hm) (fun i H' => ExB sa H H' ∧ SrcOk sa (n + k0 + c * i) H' ∧ ∃ xs, H' Dl = some (.lst xs) ∧ xs.length = i ∧ ∀ x ∈ xs, Rv (fun a => Old H a ∨ a = Dl) x H') ⟨e1.trans (ExB.of (Ex.new hD)), s1.ex (Ex.new hD), [], upd_same, rfl, fun x hx => by cases hx⟩ (fun i H' _ p => hG H' p.1) (fun i x Ha Hb hi p y => ?_) (fun H' p => ?_)
    · obtain ⟨p1, p2, xs, p3, p4, p5⟩ := p
      have hcm : c * i ≤ c * M := Nat.mul_le_mul_left _ (by omega)
      refine hg i x Ha Hb _ p1 y fun s2 hs2 => ⟨hw i s2 hs2, ?_⟩
      show te s2 Ha _
      refine he i s2 _ Ha hs2 p1 (by omega) p2 _ fun z H4 e4 s4 rz => ?_
      have h4 := e4 _ _ hDs p3
      have eU : ∀ {ws : List V}, ExA (fun a => Old H a ∨ a = Dl) H4 (upd H4 Dl (.lst ws)) := fun {ws} a o ha ho => by
        rw [upd_ne (fun q => ha (.inr q))]
        exact ho
      refine ⟨xs, h4, by rw [sizeLine_eq]; omega, fun a o ha ho => ?_, ?_, xs ++ [z], upd_same, by rw [List.length_append, p4]; rfl, fun u hu => ?_⟩
      · rw [upd_ne (fun q => hDo (by rw [← q]; unfold Old; rw [ho]; simp))]
        exact (p1.trans e4) a o ha ho
      · obtain ⟨a1, a2, a3, g1, g2⟩ := s4
        refine ⟨a1, a2, a3, by rw [upd_ne (Ne.symm hDs)]; exact g1, ?_⟩
        rw [Nat.mul_add, Nat.mul_one, ← Nat.add_assoc]
        exact g2
      · refine A.ex eU ?_
        rcases List.mem_append.mp hu with hh | hh
        · exact A.ex (ExA.of (.inl hsa) e4) (p5 u hh)
        · rw [List.mem_singleton.mp hh]
          refine A.mono (fun a ha => ?_) rz
          rcases ha with ha | ha
          · exact old_mono p1 p2 ha
          · rw [ha]
            unfold Old
            rw [p3]
            simp
    · obtain ⟨p1, p2, xs, p3, p4, p5⟩ := p
      have hcm : c * m ≤ c * M := Nat.mul_le_mul_left _ hmM
      exact q _ H' p1 (p2.mono (by omega)) ⟨Dl, xs, rfl, hDo, p3, by omega, fun x hx => A.mono (fun a ha => .inl ha) (p5 x hx)⟩
end
/-! ### what a drawn member is -/
def PcsR (av : Addr → Prop) : V → Hp → Prop := fun v H => ∃ (q : Addr) (as : List Addr), v = .ref q ∧ ¬ av q ∧ H q = some (.lst (as.map V.ref)) ∧ as.length ≤ 6 ∧ ∀ a ∈ as, ∃ (b : Int) (r : V), ¬ av a ∧ H a = some (.tup [.int b, r]) ∧ 0 ≤ b ∧ b ≤ 5000 ∧ BytR av 300 r H
theorem PcsR.exA {av : Addr → Prop} {v : V} {H H' : Hp} (e : ExA av H H') : PcsR av v H → PcsR av v H' := fun ⟨q, as, h1, h2, h3, h4, h5⟩ => ⟨q, as, h1, h2, e _ _ h2 h3, h4, fun a ha => by
  obtain ⟨b, r, g1, g2, g3, g4, g5⟩ := h5 a ha
  exact ⟨b, r, g1, e _ _ g1 g2, g3, g4, g5.exA e⟩⟩
theorem PcsR.av {av av' : Addr → Prop} {v : V} {H : Hp} (e : ∀ a, av' a → av a) : PcsR av v H → PcsR av' v H := fun ⟨q, as, h1, h2, h3, h4, h5⟩ => ⟨q, as, h1, fun h => h2 (e _ h), h3, h4, fun a ha => by
  obtain ⟨b, r, g1, g2, g3, g4, g5⟩ := h5 a ha
  exact ⟨b, r, fun h => g1 (e _ h), g2, g3, g4, g5.av e⟩⟩
def RestR (av : Addr → Prop) (k : Str) (rest : List V) (H : Hp) : Prop :=
  (k = "file" ∧ ∃ r, rest = [r] ∧ BytR av 1300 r H) ∨ (k = "sparse" ∧ ∃ (z : Int) (q : V), rest = [.int z, q] ∧ 0 ≤ z ∧ z ≤ 4096 ∧ PcsR av q H) ∨ (k = "directory" ∧ rest = []) ∨ ((k = "symlink" ∨ k = "link") ∧ ∃ t, rest = [t] ∧ TxtR 264 t H)
def MbR (av : Addr → Prop) : V → Hp → Prop := fun v H => ∃ (p : Addr) (k : Str) (nm : V) (b t : Int) (rest : List V), v = .ref p ∧ ¬ av p ∧ H p = some (.lst (.str k :: nm :: .int b :: .int t :: rest)) ∧ TxtR 264 nm H ∧ 0 ≤ b ∧ b ≤ 4095 ∧ 0 ≤ t ∧ t ≤ 8589934591 ∧ RestR av k rest H
theorem mbR_av : AvR MbR where
  ex := fun {av v H H'} e ⟨p, k, nm, b, t, rest, h1, h2, h3, h4, h5, h6, h7, h8, h9⟩ => ⟨p, k, nm, b, t, rest, h1, h2, e _ _ h2 h3, h4, h5, h6, h7, h8, by
    rcases h9 with ⟨g1, r, g2, g3⟩ | ⟨g1, z, q, g2, g3, g4, g5⟩ | g | g
    · exact .inl ⟨g1, r, g2, g3.exA e⟩
    · exact .inr (.inl ⟨g1, z, q, g2, g3, g4, g5.exA e⟩)
    · exact .inr (.inr (.inl g))
    · exact .inr (.inr (.inr g))⟩
  mono := fun {av av' v H} e ⟨p, k, nm, b, t, rest, h1, h2, h3, h4, h5, h6, h7, h8, h9⟩ => ⟨p, k, nm, b, t, rest, h1, fun h => h2 (e _ h), h3, h4, h5, h6, h7, h8, by
    rcases h9 with ⟨g1, r, g2, g3⟩ | ⟨g1, z, q, g2, g3, g4, g5⟩ | g | g
    · exact .inl ⟨g1, r, g2, g3.av e⟩
    · exact .inr (.inl ⟨g1, z, q, g2, g3, g4, g5.av e⟩)
    · exact .inr (.inr (.inl g))
    · exact .inr (.inr (.inr g))⟩
section
variable {P : Program} {w : World} {K : PySem.W.Frag} {mg : Str → Option Value} {base : Heap}
section
variable {σ : L2.St} {H : Hp} {sa : Addr} {n i j : Nat}
theorem es_aname (s : SrcOk sa n H) (hi : σ[i]? = some (some (.ref sa))) (hn : n ≤ 800000) : Es (tCall spAName [] C8.E0 (tCons (tVar i) tNil)) σ sa n H 8 (TxtR 264) := fun Q q => by
  show tVar i σ H fun v H1 => spAName [v] H1 Q C8.E0
  exact ev_var hi H (Ex.refl _) _ fun H0 e0 => ⟨sa, n, rfl, s.ex e0, hn, fun v H1 e1 s1 hv => q v H1 ((ExB.of e0).trans e1) s1 hv⟩
theorem es_rsize (s : SrcOk sa n H) (hi : σ[i]? = some (some (.ref sa))) (hn : n ≤ 800000) : Es (tCall spRSize [] C8.E0 (tCons (tVar i) tNil)) σ sa n H 2 (IntR 0 1299) := fun Q q => by
  show tVar i σ H fun v H1 => spRSize [v] H1 Q C8.E0
  exact ev_var hi H (Ex.refl _) _ fun H0 e0 => ⟨sa, n, rfl, s.ex e0, hn, fun v H1 e1 s1 hv => q v H1 ((ExB.of e0).trans e1) s1 hv⟩
theorem es_rspans {z : Int} (s : SrcOk sa n H) (hi : σ[i]? = some (some (.ref sa))) (hj : σ[j]? = some (some (.int z))) (hz : 0 ≤ z ∧ z ≤ 4096) (hn : n ≤ 800000) : Es (tCall spRSpans [] C8.E0 (tCons (tVar i) (tCons (tVar j) tNil))) σ sa n H 35 (SpansL sa) := fun Q q => by
  show tVar i σ H fun v H1 => tVar j σ H1 fun u H2 => spRSpans [v, u] H2 Q C8.E0
  exact ev_var hi H (Ex.refl _) _ fun H0 e0 => ev_var hj H0 (Ex.refl _) _ fun H1 e1 => ⟨sa, n, z, rfl, s.ex (e0.trans e1), hn, hz.1, hz.2, fun v H2 e2 s2 hv => q v H2 ((ExB.of (e0.trans e1)).trans e2) s2 hv⟩
theorem es_rnums {te : TE} {k M : Nat} (s : SrcOk sa n H) (hi : σ[i]? = some (some (.ref sa))) (hn : n + k ≤ 800000) (hM : M ≤ 5000) (h : ∀ H1, ExB sa H H1 → SrcOk sa n H1 → Es te σ sa n H1 k (IntR 0 M)) : Es (tCall spRNums [] C8.E0 (tCons (tVar i) (tCons te tNil))) σ sa n H (k + 3) (BytR (Old H) M) := fun Q q => by
  show tVar i σ H fun v H1 => te σ H1 fun u H2 => spRNums [v, u] H2 Q C8.E0
  refine ev_var hi H (Ex.refl _) _ fun H0 e0 => h H0 (ExB.of e0) (s.ex e0) _ fun v H1 e1 s1 hv => ?_
  obtain ⟨r, rfl, r0, r1⟩ := hv
  have er : (V.int r) = V.int ((r.toNat : Nat) : Int) := by rw [Int.toNat_of_nonneg r0]
  have e01 := (ExB.of e0).trans e1
  rw [er]
  exact ⟨sa, n + k, r.toNat, rfl, s1, hn, by omega, fun u H2 e2 s2 hu => q u H2 (e01.trans e2) (by rw [← Nat.add_assoc]; exact s2) (by
    obtain ⟨p, ns, h1, h2, h3, h4, h5⟩ := hu
    exact ⟨p, ns, h1, fun h => h2 (old_mono e01 s1 h), h3, h4, by omega⟩)⟩
end
def spRMem : Sp := fun vs H Q _ => ∃ (sa : Addr) (n : Nat), vs = [.ref sa] ∧ SrcOk sa n H ∧ n ≤ 700000 ∧ ∀ v H', ExB sa H H' → SrcOk sa (n + 100) H' → MbR (Old H) v H' → Q v H'
theorem sc__law_random_member : FnScope ["_law_source_here", "_law_kind", "_law_bits", "_law_time_here", "_law_found", "_law_size", "_law_spans", "_law_begin", "_law_many"] ["_law_source_here"] (defScope (topS 95)) := ⟨rfl, rfl, rfl, by decide +kernel, rfl, by decide +kernel, by decide +kernel⟩
theorem ok__law_random_member (g : GF K mg) (D : D0 K mg "_law_random_member" (topS 95)) (c_law_any_name : C8.Cal P w K mg base 3 "_law_any_name" (spAName) []) (c_law_random_numbers : C8.Cal P w K mg base 2 "_law_random_numbers" (spRNums) []) (c_law_random_spans : C8.Cal P w K mg base 2 "_law_random_spans" (spRSpans) []) (c_law_draw : C8.Cal P w K mg base 1 "_law_draw" (spDraw) []) (c_law_random_size : C8.Cal P w K mg base 2 "_law_random_size" (spRSize) []) (c_law_stamps : C8.Cal P w K mg base 2 "_law_stamps" (spStamps K) [])  : C8.Cal P w K mg base 4 "_law_random_member" (spRMem) [] := by
  refine calD D (fun _ _ _ _ _ _ us hl => match us, hl with | [_], _ => rfl) sc__law_random_member (fun vs H Q E h => by obtain ⟨sa, n, rfl, hs, hn, q⟩ := h; rfl) fun f cdv A outer s H vs Q E hr h => ?_
  have hu := hr.units
  have hu1 := hu_of hr
  obtain ⟨sa, n, rfl, hs, hn, q⟩ := h
  refine ⟨_, pss_cons (ps_set (i := 1) sc__law_random_member.nd rfl (Or.inl rfl) (pe_ix (ix_X (K := K)) (pe_lst (pa_cons (pe_str) (pa_cons (pe_str) (pa_cons (pe_str) (pa_cons (pe_str) (pa_cons (pe_str) (pa_cons (pe_str) (pa_nil)))))))) (C8.pe_c c_law_draw hr (by decide) rfl (pa_cons (pv 0) (pa_cons (pe_int) (pa_nil)))) (fun _ _ => rfl)))
      (pss_cons (ps_asg (C8.pe_c c_law_stamps hr (by decide) rfl (pa_cons (pv 0) (pa_nil))) (pg_tupK (K := K) (n := 2) rfl (pgs_cons (pg_name (i := 2) sc__law_random_member.nd rfl (Or.inl rfl)) (pgs_cons (pg_name (i := 3) sc__law_random_member.nd rfl (Or.inl rfl)) (pgs_nil)))))
      (pss_cons (ps_set (i := 4) sc__law_random_member.nd rfl (Or.inl rfl) (pe_lst (pa_cons (pv 1) (pa_cons (C8.pe_c c_law_any_name hr (by decide) rfl (pa_cons (pv 0) (pa_nil))) (pa_cons (pv 2) (pa_cons (pv 3) (pa_nil)))))))
      (pss_cons (ps_if (pt_cmpR (op_eqX (K := K) hu) (pv 1) (pe_str) (nomark _)) (pss_one (ps_ret (pe_op op_addX (pv 4) (pe_lst (pa_cons (C8.pe_c c_law_random_numbers hr (by decide) rfl (pa_cons (pv 0) (pa_cons (C8.pe_c c_law_random_size hr (by decide) rfl (pa_cons (pv 0) (pa_nil))) (pa_nil)))) (pa_nil)))))) (pss_nil))
      (pss_cons (ps_if (pt_cmpR (op_eqX (K := K) hu) (pv 1) (pe_str) (nomark _)) (pss_cons (ps_set (i := 5) sc__law_random_member.nd rfl (Or.inl rfl) (pe_ix (ix_X (K := K)) (pe_lst (pa_cons (pe_int) (pa_cons (pe_int) (pa_cons (pe_int) (pa_cons (pe_int) (pa_cons (C8.pe_c c_law_draw hr (by decide) rfl (pa_cons (pv 0) (pa_cons (pe_int) (pa_nil)))) (pa_nil))))))) (C8.pe_c c_law_draw hr (by decide) rfl (pa_cons (pv 0) (pa_cons (pe_int) (pa_nil)))) (fun _ _ => rfl)))
      (pss_cons (ps_set (i := 6) sc__law_random_member.nd rfl (Or.inl rfl) (C8.pe_c c_law_random_spans hr (by decide) rfl (pa_cons (pv 0) (pa_cons (pv 5) (pa_nil)))))
      (pss_one (ps_ret (pe_op op_addX (pv 4) (pe_lst (pa_cons (pv 5) (pa_cons (pe_lc (own := [("_law_begin", 7), ("_law_many", 8)]) (tt := tYes) rfl sc__law_random_member.nd (pi_listK (K := K) (pv 6)) (blkOk_by (N := ["_law_source_here", "_law_kind", "_law_bits", "_law_time_here", "_law_found", "_law_size", "_law_spans", "_law_begin", "_law_many"]) (sc := defScope (topS 95)) (by decide +kernel)) (fun _ _ _ _ _ => pg_tupK (K := K) (n := 2) rfl (pgs_cons (pg_name (i := 7) sc__law_random_member.nd rfl (Or.inl rfl)) (pgs_cons (pg_name (i := 8) sc__law_random_member.nd rfl (Or.inl rfl)) (pgs_nil)))) (fun _ _ _ _ _ => pts_nil) (fun _ _ _ _ _ => pe_tup (pa_cons (pv 7) (pa_cons (C8.pe_c c_law_random_numbers hr (by decide) rfl (pa_cons (pv 0) (pa_cons (pv 8) (pa_nil)))) (pa_nil))))) (pa_nil))))))))) (pss_nil))
      (pss_one (ps_ret (pe_op op_addX (pv 4) (pe_op op_mulX (pe_lst (pa_cons (C8.pe_c c_law_any_name hr (by decide) rfl (pa_cons (pv 0) (pa_nil))) (pa_nil))) (pe_callTy cr_intX rfl g.n_int bo_int (pa_cons (pe_cmpR (op_inX (K := K)) (pv 1) (pe_tup (pa_cons (pe_str) (pa_cons (pe_str) (pa_nil)))) (by with_unfolding_all rfl)) (pa_nil))))))))))), ?_⟩
  refine q_asgS (k := 1) (es_pickM (K := K) (vs := [.str "file", .str "file", .str "sparse", .str "directory", .str "symlink", .str "link"]) hs (by repeat (first | exact ea_nil | refine ea_cons ev_c ?_)) (by decide) fun H1 e s => es_draw (m := 6) rfl s (by omega) (by decide) (by decide)) fun v H1 e1 s1 hv => ?_
  refine q_asgP2S (K := K) (n := n + 1) (k := 4) (R := fun x y _ => IntR 0 4095 x H ∧ IntR 0 8589934591 y H) (fun Q q => ev_var (i := 0) rfl H1 (Ex.refl _) _ fun H2 e2 => ⟨sa, n + 1, rfl, s1.ex e2, by omega, fun v H3 e3 s3 ⟨p, b, t, ev, h1, b0, b1, t0, t1⟩ => q v H3 ((ExB.of e2).trans e3) s3 ⟨p, _, _, ev, st_of h1, ⟨b, rfl, b0, b1⟩, ⟨t, rfl, t0, t1⟩⟩⟩) fun x y H2 e2 s2 hxy => ?_
  obtain ⟨⟨b, rfl, b0, b1⟩, ⟨t, rfl, t0, t1⟩⟩ := hxy
  have hk : ∃ k : Str, v = .str k ∧ (k = "file" ∨ k = "sparse" ∨ k = "directory" ∨ k = "symlink" ∨ k = "link") := by
    simp only [List.mem_cons, List.not_mem_nil, or_false] at hv
    rcases hv with rfl | rfl | rfl | rfl | rfl | rfl
    · exact ⟨_, rfl, .inl rfl⟩
    · exact ⟨_, rfl, .inl rfl⟩
    · exact ⟨_, rfl, .inr (.inl rfl)⟩
    · exact ⟨_, rfl, .inr (.inr (.inl rfl))⟩
    · exact ⟨_, rfl, .inr (.inr (.inr (.inl rfl)))⟩
    · exact ⟨_, rfl, .inr (.inr (.inr (.inr rfl)))⟩
  obtain ⟨k, rfl, hk⟩ := hk
  have e12 := e1.trans e2
  refine q_asgS (n := n + 1 + 4) (k := 8) (R := LstA (Old H2) (fun vs _ => ∃ nm, vs = [.str k, nm, .int b, .int t] ∧ TxtR 264 nm H)) (es_lstN ((EsA.cons (k := 0) (k1 := 8) (R := fun u _ => u = .str k) (es_var s2 rfl fun _ _ => rfl) (fun _ _ _ _ h => h) fun H3 e3 s3 => EsA.cons (k := 8) (k1 := 0) (R := TxtR 264) (es_aname s3 rfl (by omega)) (txtR_sts _ _) fun H4 e4 s4 => EsA.cons (k := 0) (k1 := 0) (R := fun u _ => u = .int b) (es_var s4 rfl fun _ _ => rfl) (fun _ _ _ _ h => h) fun H5 e5 s5 => EsA.cons (k := 0) (k1 := 0) (R := fun u _ => u = .int t) (es_var s5 rfl fun _ _ => rfl) (fun _ _ _ _ h => h) fun H6 e6 s6 => esa_nil s6).imp fun vs H3 _ hh => ?_) (fun vs H3 ⟨nm, e, _⟩ => by rw [e]; exact (by decide : (4 : Nat) ≤ 100000)) fun _ _ _ _ h => h) fun v H3 e3 s3 hv => ?_
  · obtain ⟨_, _, rfl, rfl, nm, _, rfl, hnm, _, _, rfl, rfl, _, _, rfl, rfl, rfl⟩ := hh
    exact ⟨nm, rfl, hnm⟩
  obtain ⟨p, xs, rfl, hp, h3, nm, rfl, hnm⟩ := hv
  have e13 := e12.trans e3
  have hps : p ≠ sa := fun e => hp (by rw [e]; exact old_src s2)
  have fin : ∀ {te : TE} {σ : L2.St} {H4 : Hp} {D : Ends} {kk n1 : Nat} {RB : List V → Hp → Prop}, D.rt = Q → ExB sa H H4 → SrcOk sa n1 H4 → Es te σ sa n1 H4 kk (LstA (Old H4) (fun vs H1 => ∃ x y, vs = x ++ y ∧ x = [.str k, nm, .int b, .int t] ∧ RB y H1)) → n1 + kk ≤ n + 100 → (∀ rest H1, RB rest H1 → RestR (Old H) k rest H1) → tRet te D σ H4 := fun {te σ H4 D kk n1 RB} hD e4 s4 h hkk hr => by
    refine s_retS h fun v H5 e5 s5 hv => ?_
    obtain ⟨q1, xs, rfl, hq, h5, x, y, rfl, rfl, hy⟩ := hv
    rw [hD]
    exact q _ H5 (e4.trans e5) (s5.mono (by omega)) ⟨q1, k, nm, b, t, y, rfl, fun h => hq (old_mono e4 s4 h), h5, hnm, b0, b1, t0, t1, hr _ _ hy⟩
  have fnd : ∀ {σ : L2.St} {H4 : Hp} {n1 : Nat}, ExB sa H3 H4 → SrcOk sa n1 H4 → σ[4]? = some (some (.ref p)) → Es (tVar 4) σ sa n1 H4 0 (LstR sa (fun vs _ => vs = [.str k, nm, .int b, .int t])) := fun {σ H4 n1} e4 s4 h4 => es_var s4 h4 fun H5 e5 => ⟨p, _, rfl, hps, e5 _ _ (e4 _ _ hps h3), rfl⟩
  refine q_when (et_test (ev_op (ev_var rfl) ev_c (rv_eqX rfl))) (fun hb H4 e4 => ?_) fun hb1 H4 e4 => ?_
  · have hkf : k = "file" := by simpa using hb
    have e14 := e13.trans (ExB.of e4)
    have s4 := s3.ex e4
    have ho := old_src hs
    refine fin (RB := fun vs H1 => ∃ r, vs = [r] ∧ BytR (Old H) 1300 r H1) (kk := 5) rfl e14 s4 (es_catL (k := 0) (k1 := 5) (RA := fun vs _ => vs = [.str k, nm, .int b, .int t]) (fnd (ExB.of e4) s4 rfl) (fun _ _ _ _ h => h) (fun vs H1 H2 e ⟨r, h1, h2⟩ => ⟨r, h1, h2.exA (ExA.of ho e)⟩) (fun vs H1 e => by rw [e]; exact (by decide : (4 : Nat) ≤ 100000)) (fun vs H1 ⟨r, e, _⟩ => by rw [e]; exact (by decide : (1 : Nat) ≤ 100000)) fun H5 e5 s5 => es_lst ((EsA.cons (k := 5) (k1 := 0) (R := BytR (Old H) 1300) ((es_rnums (k := 2) (M := 1299) s5 rfl (by omega) (by decide) fun H6 e6 s6 => es_rsize s6 rfl (by omega)).imp fun v H6 e6 ⟨p1, ns, g1, g2, g3, g4, g5⟩ => ⟨p1, ns, g1, fun h => g2 (old_mono (e14.trans e5) s5 h), g3, g4, by omega⟩) (fun v H1 H2 e h => h.exA (ExA.of ho e)) fun H6 e6 s6 => esa_nil s6).imp fun vs H6 e6 ⟨r, _, e1, h1, e2⟩ => ⟨r, by rw [e1, e2], h1⟩) (fun vs H1 ⟨r, e, _⟩ => by rw [e]; exact (by decide : (1 : Nat) ≤ 100000)) fun vs H1 H2 e ⟨r, h1, h2⟩ => ⟨r, h1, h2.exA (ExA.of ho e)⟩) (by omega) fun rest H1 ⟨r, h1, h2⟩ => .inl ⟨hkf, r, h1, h2⟩
  · have hnf : k ≠ "file" := by simpa using hb1
    refine q_when (et_test (ev_op (ev_var rfl) ev_c (rv_eqX rfl))) (fun hb H5 e5 => ?_) fun hb2 H5 e5 => ?_
    · have hks : k = "sparse" := by simpa using hb
      have s5 := s3.ex (e4.trans e5)
      have ho := old_src hs
      refine q_asgS (n := n + 13) (k := 2) (R := IntR 0 4096) (es_pickI (cs := [0, 1, 700, 4096]) (k := 1) (k1 := 1) s5 (by decide) (by decide) (fun H1 e s => (es_draw (m := 2000) rfl s (by omega) (by decide) (by decide)).imp fun v H2 _ ⟨r, e, r0, r1⟩ => ⟨r, e, r0, by omega⟩) fun H1 e s => es_draw (m := 5) rfl s (by omega) (by decide) (by decide)) fun v H6 e6 s6 hv => ?_
      obtain ⟨z, rfl, z0, z1⟩ := hv
      refine q_asgS (n := n + 13 + 2) (k := 35) (es_rspans (z := z) s6 rfl rfl ⟨z0, z1⟩ (by omega)) fun v H7 e7 s7 hv => ?_
      obtain ⟨l, as, ss, rfl, hls, hl7, hsp, hss, hok⟩ := hv
      have e37 := (ExB.of (e4.trans e5)).trans (e6.trans e7)
      have e17 := e13.trans e37
      refine fin (n1 := n + 13 + 2 + 35) (kk := 18) (RB := fun vs H1 => ∃ q1, vs = [.int z, q1] ∧ PcsR (Old H) q1 H1) rfl e17 s7 (es_catL (k := 0) (k1 := 18) (RA := fun vs _ => vs = [.str k, nm, .int b, .int t]) (fnd e37 s7 rfl) (fun _ _ _ _ h => h) (fun vs H1 H2 e ⟨r, h1, h2⟩ => ⟨r, h1, h2.exA (ExA.of ho e)⟩) (fun vs H1 e => by rw [e]; exact (by decide : (4 : Nat) ≤ 100000)) (fun vs H1 ⟨r, e, _⟩ => by rw [e]; exact (by decide : (2 : Nat) ≤ 100000)) fun H8 e8 s8 => es_lst ((EsA.cons (k := 0) (k1 := 18) (R := fun u _ => u = .int z) (es_var s8 rfl fun _ _ => rfl) (fun _ _ _ _ h => h) fun H9 e9 s9 => EsA.cons (k := 18) (k1 := 0) (R := PcsR (Old H)) (?_ : Es _ _ sa _ H9 18 (PcsR (Old H))) (fun v H1 H2 e h => h.exA (ExA.of ho e)) fun H10 e10 s10 => esa_nil s10).imp fun vs H7 e7 hh => ?_) (fun vs H1 ⟨r, e, _⟩ => by rw [e]; exact (by decide : (2 : Nat) ≤ 100000)) fun vs H1 H2 e ⟨r, h1, h2⟩ => ⟨r, h1, h2.exA (ExA.of ho e)⟩) (by omega) fun rest H1 ⟨r, h1, h2⟩ => .inr (.inl ⟨hks, z, r, h1, z0, z1, h2⟩)
      · have hl9 := (e8.trans e9) _ _ hls hl7
        have hsp9 := hsp.exB (e8.trans e9)
        have e19 := (e17.trans e8).trans e9
        have g := es_lcS (G := fun H' => SqL K H' l (as.map V.ref)) (Y := YAt (as.map V.ref)) (σ := [some (.ref sa), some (.str k), some (.int b), some (.int t), some (.ref p), some (.int z), some (.ref l), none, none]) (n := n + 13 + 2 + 35) (te := tTup (tCons (tVar 7) (tCons (tCall spRNums [] C8.E0 (tCons (tVar 0) (tCons (tVar 8) tNil))) tNil))) (wi := iList K (tVar 6)) (g := gTup K 2 (gCons (gName 7) (gCons (gName 8) gNil))) (vs := [7, 8]) (k0 := 0) (c := 3) (M := 6) (Rv := fun av v H => ∃ (a : Addr) (b : Int) (r : V), v = .ref a ∧ ¬ av a ∧ H a = some (.tup [.int b, r]) ∧ 0 ≤ b ∧ b ≤ 5000 ∧ BytR av 300 r H) ⟨fun e ⟨a, b, r, h1, h2, h3, h4, h5, h6⟩ => ⟨a, b, r, h1, h2, e _ _ h2 h3, h4, h5, h6.exA e⟩, fun e ⟨a, b, r, h1, h2, h3, h4, h5, h6⟩ => ⟨a, b, r, h1, fun h => h2 (e _ h), h3, h4, h5, h6.av e⟩⟩ s9 (fun m => m = ss.length) (fun i s2 => ∃ zz, ss[i]? = some zz ∧ s2 = [some (.ref sa), some (.str k), some (.int b), some (.int t), some (.ref p), some (.int z), some (.ref l), some (.int zz.1), some (.int zz.2)]) (fun m h => by rw [h]; exact hss) (by decide) (J := fun _ => Itl K l) (fun m hm => by
          have e0 : m = (as.map V.ref).length := by rw [hm, List.length_map, hsp.1]
          rw [e0]
          exact walk_list) (fun Rr h => ev_var (i := 6) (v := .ref l) rfl H9 (Ex.refl _) _ fun H2 e2 => ⟨l, rfl, ⟨_, sq_of (e2 _ _ hl9)⟩, h ss.length H2 rfl (ExB.of e2) (s9.ex e2)⟩) (fun H' e => sq_of (e _ _ hls hl9)) (fun i x H1 H2 Qc e y hq => by
          obtain ⟨rfl, hx⟩ := y
          rw [List.getElem?_map] at hx
          obtain ⟨pa, hpa, rfl⟩ := Option.map_eq_some_iff.mp hx
          have hi : i < ss.length := by have := (List.getElem?_eq_some_iff.mp hpa).1; have := hsp.1; omega
          have hz := List.getElem?_eq_getElem hi
          have hp1 := hsp9.2 i pa _ hpa hz
          exact ⟨pa, _, rfl, st_of (e _ _ hp1.1 hp1.2), rfl, _, _, rfl, _, _, rfl, rfl, hq _ ⟨_, hz, rfl⟩⟩) (fun i s2 ⟨zz, _, e⟩ => by rw [e]; rfl) fun i s2 n1 H1 ⟨zz, hzz, e⟩ e1 hn1 s1 => by
          subst e
          have hzk := hok zz (List.mem_of_getElem? hzz)
          unfold okSp at hzk
          refine (es_tupN (EsA.cons (k := 0) (k1 := 3) (R := fun u _ => u = .int zz.1) (es_var s1 rfl fun _ _ => rfl) (fun _ _ _ _ h => h) fun H2 e2 s2 => EsA.cons (k := 3) (k1 := 0) (R := BytR (Old H1) 300) ((es_rnums (k := 0) (M := 300) s2 rfl (by omega) (by decide) fun H3 e3 s3 => es_var s3 rfl fun _ _ => ⟨zz.2, rfl, by omega, by omega⟩).imp fun v H3 e3 h => h.av fun a ha => old_mono e2 s2 ha) (fun v Ha Hb e h => h.exA (ExA.of (old_src s1) e)) fun H3 e3 s3 => esa_nil s3) (fun vs Ha h => ?_) (fun vs Ha Hb e h => ?_)).imp fun v H2 e2 hv => ?_
          · obtain ⟨_, _, rfl, _, _, _, rfl, _, rfl⟩ := h
            exact (by decide : (2 : Nat) ≤ 100000)
          · obtain ⟨v1, r1, h1, h2, v2, r2, h3, h4, h5⟩ := h
            exact ⟨v1, r1, h1, h2, v2, r2, h3, h4.exA (ExA.of (old_src s1) e), h5⟩
          · obtain ⟨pq, xs, rfl, hpq, h1, _, _, rfl, rfl, r, _, rfl, hr, rfl⟩ := hv
            exact ⟨pq, zz.1, r, rfl, hpq, h1, by omega, by omega, hr⟩
        exact (Es.imp g fun v H10 e10 hv => by
          obtain ⟨pq, xs, rfl, hpq, h1, hlx, hx⟩ := hv
          have hrefs : ∃ as : List Addr, xs = as.map V.ref := by
            clear h1 hlx g
            induction xs with
            | nil => exact ⟨[], rfl⟩
            | cons x xs ih =>
              obtain ⟨as, e⟩ := ih fun y hy => hx y (List.mem_cons_of_mem _ hy)
              obtain ⟨a, _, _, ea, _⟩ := hx x (List.mem_cons_self ..)
              exact ⟨a :: as, by rw [e, ea]; rfl⟩
          obtain ⟨as2, rfl⟩ := hrefs
          refine ⟨pq, as2, rfl, fun h => hpq (old_mono e19 s9 h), h1, by rw [List.length_map] at hlx; exact hlx, fun a ha => ?_⟩
          obtain ⟨a', b', r, ea, g1, g2, g3, g4, g5⟩ := hx (.ref a) (List.mem_map.mpr ⟨a, ha, rfl⟩)
          cases ea
          exact ⟨b', r, fun h => g1 (old_mono e19 s9 h), g2, g3, g4, g5.av fun a h => old_mono e19 s9 h⟩)
      · obtain ⟨_, _, rfl, rfl, q1, _, rfl, h1, rfl⟩ := hh
        exact ⟨q1, rfl, h1⟩
    · have hns : k ≠ "sparse" := by simpa using hb2
      have hk2 : k = "directory" ∨ k = "symlink" ∨ k = "link" := by
        rcases hk with h | h | h
        · exact absurd h hnf
        · exact absurd h hns
        · exact h
      have e15 := e13.trans (ExB.of (e4.trans e5))
      have s5 := s3.ex (e4.trans e5)
      have hin : ∃ m : Nat, m ≤ 1 ∧ V.int (if inV (.str k) [.str "symlink", .str "link"] then 1 else 0) = .int (m : Int) ∧ ((k = "directory" ∧ m = 0) ∨ ((k = "symlink" ∨ k = "link") ∧ m = 1)) := by
        rcases hk2 with rfl | rfl | rfl
        · exact ⟨0, by decide, rfl, .inl ⟨rfl, rfl⟩⟩
        · exact ⟨1, by decide, rfl, .inr ⟨.inl rfl, rfl⟩⟩
        · exact ⟨1, by decide, rfl, .inr ⟨.inr rfl, rfl⟩⟩
      obtain ⟨m, hm, em, hkm⟩ := hin
      refine fin (RB := fun vs H1 => ∃ x, vs = (List.replicate m x).flatten ∧ ∃ u, x = [u] ∧ TxtR 264 u H1) (kk := 8) rfl e15 s5 (es_catL (k := 0) (k1 := 8) (RA := fun vs _ => vs = [.str k, nm, .int b, .int t]) (fnd (ExB.of (e4.trans e5)) s5 rfl) (fun _ _ _ _ h => h) (fun _ _ _ _ h => h) (fun vs H1 e => by rw [e]; exact (by decide : (4 : Nat) ≤ 100000)) (fun vs H1 ⟨x, e, u, e2, _⟩ => by rw [e, e2, rep_one, List.length_replicate]; omega) fun H6 e6 s6 => es_repL (m := m) (RA := fun x H1 => ∃ u, x = [u] ∧ TxtR 264 u H1) (es_lst ((EsA.cons (k := 8) (k1 := 0) (es_aname s6 rfl (by omega)) (txtR_sts _ _) fun H7 e7 s7 => esa_nil s7).imp fun vs H7 e7 ⟨r, _, e1, h1, e2⟩ => ⟨r, by rw [e1, e2], h1⟩) (fun vs H1 ⟨r, e, _⟩ => by rw [e]; exact (by decide : (1 : Nat) ≤ 100000)) fun _ _ _ _ h => h) (fun _ _ _ _ h => h) (fun vs H1 ⟨r, e, _⟩ => by rw [e]; exact (by decide : (1 : Nat) ≤ 1000)) (by omega) fun H7 e7 s7 => ev_is (ev_cb1 (ev_inTup (ev_var rfl) (eu_tup (ea_cons ev_c (ea_cons ev_c ea_nil)) (by decide)) rfl rfl) rc_intB) em) (by omega) fun rest H1 ⟨x, e, u, e2, hu⟩ => ?_
      subst e2 e
      rcases hkm with ⟨hk3, rfl⟩ | ⟨hk3, rfl⟩
      · exact .inr (.inr (.inl ⟨hk3, rfl⟩))
      · exact .inr (.inr (.inr ⟨hk3, u, rfl, hu⟩))
end
end Tar

/-! TaQ6 -/
set_option Elab.async false
set_option linter.all false
set_option maxRecDepth 100000
set_option maxHeartbeats 400000
/-! the drawing defs, 6: lists of members, the source -/
namespace Tar
open PySem PySem.Spec PyProof.Rows L2 Evl
section
variable {P : Program} {w : World} {K : PySem.W.Frag} {mg : Str → Option Value} {base : Heap}
def MbsR (av : Addr → Prop) : V → Hp → Prop := LstA av (fun xs H => xs.length ≤ 4 ∧ ∀ x ∈ xs, MbR av x H)
def spRList : Sp := fun vs H Q _ => ∃ (sa : Addr) (n : Nat), vs = [.ref sa, .int 4] ∧ SrcOk sa n H ∧ n ≤ 600000 ∧ ∀ v H', ExB sa H H' → SrcOk sa (n + 401) H' → MbsR (Old H) v H' → Q v H'
theorem sc__law_random_list : FnScope ["_law_source_here", "_law_most", "_law_k"] ["_law_source_here", "_law_most"] (defScope (topS 96)) := ⟨rfl, rfl, rfl, by decide +kernel, rfl, by decide +kernel, by decide +kernel⟩
theorem ok__law_random_list (g : GF K mg) (D : D0 K mg "_law_random_list" (topS 96)) (c_law_draw : C8.Cal P w K mg base 1 "_law_draw" (spDraw) []) (c_law_random_member : C8.Cal P w K mg base 4 "_law_random_member" (spRMem) [])  : C8.Cal P w K mg base 5 "_law_random_list" (spRList) [] := by
  refine calD D (fun _ _ _ _ _ _ us hl => match us, hl with | [_, _], _ => rfl) sc__law_random_list (fun vs H Q E h => by obtain ⟨sa, n, rfl, hs, hn, q⟩ := h; rfl) fun f cdv A outer s H vs Q E hr h => ?_
  have hu := hr.units
  have hu1 := hu_of hr
  obtain ⟨sa, n, rfl, hs, hn, q⟩ := h
  refine ⟨_, pss_one (ps_ret (pe_lc (own := [("_law_k", 2)]) (tt := tYes) rfl sc__law_random_list.nd (pi_range1 rfl g.n_range (pa_cons (C8.pe_c c_law_draw hr (by decide) rfl (pa_cons (pv 0) (pa_cons (pe_op op_addX (pv 1) (pe_int)) (pa_nil)))) pa_nil)) (blkOk_by (N := ["_law_source_here", "_law_most", "_law_k"]) (sc := defScope (topS 96)) (by decide +kernel)) (fun _ _ _ _ _ => pg_name (i := 2) sc__law_random_list.nd rfl (Or.inl rfl)) (fun _ _ _ _ _ => pts_nil) (fun _ _ _ _ _ => C8.pe_c c_law_random_member hr (by decide) rfl (pa_cons (pv 0) (pa_nil))))), ?_⟩
  refine s_retS (k := 401) (es_lcS (G := fun _ => True) (Y := YFn fun i => .int (0 + (i : Int))) (k0 := 1) (c := 100) (M := 4) (Rv := MbR) mbR_av hs (fun m => m ≤ 4) (fun i s2 => s2 = [some (.ref sa), some (.int 4), some (.int (0 + (i : Int)))]) (fun m h => h) (by decide) (J := fun m => Itr 0 m) (fun m hm => walk_range) (fun Rr h => ?_) (fun _ _ => True.intro) (fun i x H1 H2 Qc e y hq => ?_) (fun i s2 e => by rw [e]; rfl) fun i s2 n1 H1 e e1 hn1 s1 => ?_) fun v H1 e s hv => q v H1 e s hv
  · refine es_drawE (i := 0) (k := 0) (M := 5) rfl hs (by omega) (by decide) (fun H1 e s => es_addI (k := 0) (k1 := 0) (a := 1) (b := 4) (c := 0) (d := 1) (es_var s rfl fun _ _ => ⟨4, rfl, by decide, by decide⟩) fun H2 e2 s2 => es_int (z := 1) s2 (by decide)) _ fun v H1 e s hv => ?_
    obtain ⟨r, rfl, r0, r1⟩ := hv
    exact ⟨r, rfl, by omega, by omega, h r.toNat H1 (by omega) e s⟩
  · obtain ⟨rfl, rfl⟩ := y
    exact hq _ rfl
  · subst e
    intro Q' q'
    exact ev_var (i := 0) (v := .ref sa) rfl H1 (Ex.refl _) (fun v H2 => spRMem [v] H2 Q' C8.E0) fun H2 e2 => ⟨sa, n1, rfl, s1.ex e2, by omega, fun v H3 e3 s3 hv => q' v H3 ((ExB.of e2).trans e3) s3 (mbR_av.mono (fun a ha => old_mono (ExB.of e2) (s1.ex e2) ha) hv)⟩
end
end Tar

/-! TaQ7 -/
set_option Elab.async false
set_option linter.all false
set_option maxRecDepth 100000
set_option maxHeartbeats 400000
/-! the law's own writer: lists of numbers 0..255 -/
namespace Tar
open PySem PySem.Spec PyProof.Rows L2 Evl
/-- a new list of bytes' numbers, at most m -/
def NewB (m : Nat) (H : Hp) (Q : VK) : Prop := ∀ p H' (ns : List Int), H p = none → Ex H H' → H' p = some (.lst (ns.map V.int)) → (∀ x ∈ ns, inByte x) → ns.length ≤ m → Q (.ref p) H'
section
variable {P : Program} {w : World} {K : PySem.W.Frag} {mg : Str → Option Value} {base : Heap}
def spCodes : Sp := fun vs H Q _ => ∃ t : List Nat, vs = [.str (SX.S t)] ∧ asc t ∧ t.length ≤ 2000 ∧ NewB t.length H Q
theorem sc__law_codes : FnScope ["_law_text", "_law_sign"] ["_law_text"] (defScope (topS 97)) := ⟨rfl, rfl, rfl, by decide +kernel, rfl, by decide +kernel, by decide +kernel⟩
theorem ok__law_codes (g : GF K mg) (D : D0 K mg "_law_codes" (topS 97))   : C8.Cal P w K mg base 1 "_law_codes" (spCodes) [] := by
  refine calD D (fun _ _ _ _ _ _ us hl => match us, hl with | [_], _ => rfl) sc__law_codes (fun vs H Q E h => by obtain ⟨t, rfl, ha, hl, q⟩ := h; rfl) fun f cdv A outer s H vs Q E hr h => ?_
  have hu := hr.units
  have hu1 := hu_of hr
  obtain ⟨t, rfl, ha, hl, q⟩ := h
  refine ⟨_, pss_one (ps_ret (pe_lc (own := [("_law_sign", 1)]) (tt := tYes) rfl sc__law_codes.nd (pi_str (pv 0)) (blkOk_by (N := ["_law_text", "_law_sign"]) (sc := defScope (topS 97)) (by decide +kernel)) (fun _ _ _ _ _ => pg_name (i := 1) sc__law_codes.nd rfl (Or.inl rfl)) (fun _ _ _ _ _ => pts_nil) (fun _ _ _ _ _ => pe_callB cr_ord rfl g.n_ord bo_ord (pa_cons (pv 1) (pa_nil))))), ?_⟩
  have g := el_lcT (σ := L2.start ["_law_text", "_law_sign"] [.str (SX.S t)]) (H := H) (tz := tVar 0) (te := tCB rOrd (tCons (tVar 1) tNil)) (j := 1) (vs := [1]) (fun c => V.int (c : Int)) (ev_var rfl) (by omega) (fun _ => rfl) fun c H1 e hc => ev_cb1 (ev_var rfl) (rc_ord (σ := []))
  have e0 : t.map (fun c : Nat => V.int (c : Int)) = (t.map fun c : Nat => (c : Int)).map V.int := by rw [List.map_map]; rfl
  rw [e0] at g
  exact g H (Ex.refl _) Q fun p H1 hp e1 h1 => q p H1 _ hp e1 h1 (fun x hx => by
    obtain ⟨c, hc, rfl⟩ := List.mem_map.mp hx
    have := ha c hc
    exact ⟨by omega, by omega⟩) (by rw [List.length_map]; exact Nat.le_refl _)
def spOctal : Sp := fun vs H Q _ => ∃ (z : Int) (m : Nat), vs = [.int z, .int (m : Int)] ∧ 1 ≤ m ∧ m ≤ 12 ∧ NewB m H Q
theorem sc__law_octal : FnScope ["_law_number", "_law_width", "_law_digits", "_law_k"] ["_law_number", "_law_width"] (defScope (topS 98)) := ⟨rfl, rfl, rfl, by decide +kernel, rfl, by decide +kernel, by decide +kernel⟩
theorem ok__law_octal (g : GF K mg) (D : D0 K mg "_law_octal" (topS 98))   : C8.Cal P w K mg base 1 "_law_octal" (spOctal) [] := by
  refine calD D (fun _ _ _ _ _ _ us hl => match us, hl with | [_, _], _ => rfl) sc__law_octal (fun vs H Q E h => by obtain ⟨z, m, rfl, hm, hm2, q⟩ := h; rfl) fun f cdv A outer s H vs Q E hr h => ?_
  have hu := hr.units
  have hu1 := hu_of hr
  obtain ⟨z, m, rfl, hm, hm2, q⟩ := h
  refine ⟨_, pss_cons (ps_set (i := 2) sc__law_octal.nd rfl (Or.inl rfl) (pe_lst (pa_nil)))
      (pss_cons (ps_for PassesOwn.never rfl (pi_range1 rfl g.n_range (pa_cons (pe_op op_sub (pv 1) (pe_int)) pa_nil)) (pg_name (i := 3) sc__law_octal.nd rfl (Or.inl rfl))
      (pss_cons (ps_expr (pe_bm PySem.F.plainAttrs_list PySem.F.slot_list_append PySem.F.type_list_append mt_append (pv 2) (pa_cons (pe_op op_addX (pe_int) (pe_op op_modX (pe_callTy cr_intX rfl g.n_int bo_int (pa_cons (pv 0) (pa_nil))) (pe_int))) (pa_nil))))
      (pss_one (ps_set (i := 0) sc__law_octal.nd rfl (Or.inl rfl) (pe_op op_divX (pv 0) (pe_int))))))
      (pss_one (ps_ret (pe_op op_addX (pe_revL (pv 2)) (pe_lst (pa_cons (pe_int) (pa_nil))))))), ?_⟩
  refine q_asgL (xs := []) (el_lst ea_nil (by decide)) fun l H1 hl e1 h1 => ?_
  refine q_forR1 (n := (m : Int) - 1) (ea_cons (ev_op (ev_var rfl) ev_c rv_subI) ea_nil) (by omega) (fun i σ' H' => ∃ (y : Int) (ns : List Int) (x : Option V), σ' = [some (.int y), some (.int (m : Int)), some (.ref l), x] ∧ Ex H H' ∧ H' l = some (.lst (ns.map V.int)) ∧ ns.length = i ∧ ∀ x ∈ ns, inByte x) (fun H2 e2 => ⟨z, [], _, rfl, e1.trans e2, e2 _ _ h1, rfl, fun x h => by cases h⟩) (fun i σ' H' hi p => ?_) fun σ' H' p => ?_
  · obtain ⟨y, ns, x, rfl, eH, hx, hn, hb⟩ := p
    have hlen : (ns.map V.int).length < 100000 := by rw [List.length_map]; omega
    have hy := mod_in (x := y) (m := 8) (by decide)
    refine q_app (K := K) (v := .int (48 + y % 8)) hx (ev_var rfl) (ev_op ev_c (ev_op (ev_cb1 (ev_var rfl) rc_int1) ev_c (rv_modI (by decide))) rv_addI) hlen fun H2 e2 => ?_
    refine s_asg (v := .int (y / 8)) (ev_op (ev_var rfl) ev_c (rv_divI (wide_div (b := 10) (by decide) (by decide) (by decide) (by decide)))) fun H3 e3 => ⟨y / 8, ns ++ [48 + y % 8], _, rfl, fun a o ho => e3 _ _ (by
      rw [upd_ne (ne_of_none ho hl)]
      exact e2 _ _ (eH _ _ ho)), by rw [List.map_append]; exact e3 _ _ upd_same, by rw [List.length_append, hn]; rfl, fun u hu => ?_⟩
    rcases List.mem_append.mp hu with h | h
    · exact hb u h
    · rw [List.mem_singleton.mp h]
      exact ⟨by omega, by omega⟩
  · obtain ⟨y, ns, x, rfl, eH, hx, hn, hb⟩ := p
    have g : EvL (tRevL K (tVar 2)) [some (.int y), some (.int (m : Int)), some (.ref l), x] H' (ns.map V.int).reverse := fun Ha e Q2 q2 => ev_var rfl Ha e _ fun Hb eb => ⟨l, _, rfl, sq_of (eb _ _ (e _ _ hx)), fun p hp => q2 p _ (fresh_back eb hp) (eb.trans (Ex.new hp)) upd_same⟩
    have g2 := el_cat g (el_lst (ta := tCons (tC (.int 0)) tNil) (ea_cons ev_c ea_nil) (by decide)) (by simp; omega)
    have e0 : (ns.map V.int).reverse ++ [V.int 0] = (ns.reverse ++ [0]).map V.int := by simp
    rw [e0] at g2
    exact g2 H' (Ex.refl _) Q fun p H2 hp e2 h2 => q p H2 _ (fresh_back eH hp) (eH.trans e2) h2 (fun u hu => by
      rcases List.mem_append.mp hu with h | h
      · exact hb u (List.mem_reverse.mp h)
      · rw [List.mem_singleton.mp h]
        exact ⟨by decide, by decide⟩) (by rw [List.length_append, List.length_reverse, hn]; show ((m : Int) - 1).toNat + 1 ≤ m; omega)
theorem el_catV {σ : L2.St} {H : Hp} {ta tb : TE} {a : Addr} {xs ys : List V} (h : Ev ta σ H (.ref a)) (ha : H a = some (.lst xs)) (h2 : EvL tb σ H ys) (hz : xs.length + ys.length ≤ 16777216) : EvL (tOp rAddX ta tb) σ H (xs ++ ys) := fun H1 e Q q =>
  h H1 e _ fun H2 e2 => h2 H2 (e.trans e2) _ fun p3 H3 hp3 e3 h3 => .inr (.inr (.inr ⟨a, p3, xs, ys, rfl, rfl, e3 _ _ (e2 _ _ (e _ _ ha)), h3, by rw [sizeLine_eq]; exact hz, fun r hr => q r _ (fresh_back (e2.trans e3) hr) ((e2.trans e3).trans (Ex.new hr)) upd_same⟩))
def spFilled : Sp := fun vs H Q _ => ∃ (a : Addr) (ns : List Int), vs = [.ref a] ∧ H a = some (.lst (ns.map V.int)) ∧ (∀ x ∈ ns, inByte x) ∧ ns.length ≤ 50000 ∧ ∀ p H' (k : Nat), H p = none → Ex H H' → k < 512 → (ns.length + k) % 512 = 0 → H' p = some (.lst ((ns ++ List.replicate k 0).map V.int)) → Q (.ref p) H'
theorem sc__law_filled : FnScope ["_law_numbers"] ["_law_numbers"] (defScope (topS 100)) := ⟨rfl, rfl, rfl, by decide +kernel, rfl, by decide +kernel, by decide +kernel⟩
theorem ok__law_filled (g : GF K mg) (D : D0 K mg "_law_filled" (topS 100))   : C8.Cal P w K mg base 1 "_law_filled" (spFilled) [] := by
  refine calD D (fun _ _ _ _ _ _ us hl => match us, hl with | [_], _ => rfl) sc__law_filled (fun vs H Q E h => by obtain ⟨a, ns, rfl, ha, hb, hl, q⟩ := h; rfl) fun f cdv A outer s H vs Q E hr h => ?_
  have hu := hr.units
  have hu1 := hu_of hr
  obtain ⟨a, ns, rfl, ha, hb, hl, q⟩ := h
  refine ⟨_, pss_one (ps_ret (pe_op op_addX (pv 0) (pe_op op_mulX (pe_lst (pa_cons (pe_int) (pa_nil))) (pe_op op_modX (pe_callTy cr_intX rfl g.n_int bo_int (pa_cons (pe_op op_sub (pe_int) (pe_callB (cr_lenX (K := K)) rfl g.n_len bo_len (pa_cons (pv 0) (pa_nil)))) (pa_nil))) (pe_int))))), ?_⟩
  have hlen : (ns.map V.int).length = ns.length := List.length_map _
  have hk := mod_in (x := 0 - (ns.length : Int)) (m := 512) (by decide)
  generalize hkk : (0 - (ns.length : Int)) % 512 = k0 at hk
  have g := el_catV (ta := tVar 0) (σ := L2.start ["_law_numbers"] [.ref a]) (ev_var rfl) ha (el_repL (ta := tLst (tCons (tC (.int 0)) tNil)) (tb := tOp rModX (tCB rIntX (tCons (tOp (rI0 fun i j => .int (i - j)) (tC (.int 0)) (tCB (rLenX K) (tCons (tVar 0) tNil))) tNil)) (tC (.int 512))) (xs := [.int 0]) (m := k0) (el_lst (ea_cons ev_c ea_nil) (by decide)) (ev_is (ev_op (ev_cb1 (ev_op ev_c (ev_cb1 (ev_var rfl) (rc_lenL (sq_of ha))) rv_subI) rc_int1) ev_c (rv_modI (by decide))) (congrArg V.int (by rw [hlen]; exact hkk))) (by omega) (by simp; omega)) (by rw [rep_one, List.length_replicate, hlen]; omega)
  rw [rep_one] at g
  have e0 : ns.map V.int ++ List.replicate k0.toNat (V.int 0) = (ns ++ List.replicate k0.toNat 0).map V.int := by rw [List.map_append, List.map_replicate]
  rw [e0] at g
  exact g H (Ex.refl _) Q fun p H1 hp e1 h1 => q p H1 k0.toNat hp e1 (by omega) (by omega) h1
end
end Tar

/-! TaQ8 -/
set_option Elab.async false
set_option linter.all false
set_option maxRecDepth 100000
set_option maxHeartbeats 400000
/-! the law's own writer, 2: heads, long parts -/
namespace Tar
open PySem PySem.Spec PyProof.Rows L2 Evl
instance (n : Int) : Decidable (inByte n) := inferInstanceAs (Decidable (0 ≤ n ∧ n ≤ 255))
/-- a list of bytes' numbers, at most m; a new one -/
def EvW (te : TE) (σ : L2.St) (H : Hp) (m : Nat) : Prop := ∀ H1, Ex H H1 → ∀ Q : VK, (∀ p H2 (ns : List Int), Ex H1 H2 → H2 p = some (.lst (ns.map V.int)) → (∀ x ∈ ns, inByte x) → ns.length ≤ m → Q (.ref p) H2) → te σ H1 Q
def EvB (te : TE) (σ : L2.St) (H : Hp) (m : Nat) : Prop := ∀ H1, Ex H H1 → ∀ Q : VK, NewB m H1 Q → te σ H1 Q
section
variable {K : PySem.W.Frag} {σ : L2.St} {H H' : Hp} {ta tb te : TE} {m m1 m2 : Nat} {D : Ends} {tz : TS} {i : Nat}
theorem EvB.w (h : EvB te σ H m) : EvW te σ H m := fun H1 e Q q => h H1 e Q fun p H2 ns _ e2 h2 hb hl => q p H2 ns e2 h2 hb hl
theorem EvW.le (h : EvW te σ H m) (hm : m ≤ m1) : EvW te σ H m1 := fun H1 e Q q => h H1 e Q fun p H2 ns e2 h2 hb hl => q p H2 ns e2 h2 hb (by omega)
theorem EvB.le (h : EvB te σ H m) (hm : m ≤ m1) : EvB te σ H m1 := fun H1 e Q q => h H1 e Q fun p H2 ns hp e2 h2 hb hl => q p H2 ns hp e2 h2 hb (by omega)
theorem NewB.le {Q : VK} (h : NewB m1 H Q) (hm : m ≤ m1) : NewB m H Q := fun p H2 ns hp e2 h2 hb hl => h p H2 ns hp e2 h2 hb (by omega)
theorem EvW.mono (e : Ex H H') (h : EvW te σ H m) : EvW te σ H' m := fun H1 e1 Q q => h H1 (e.trans e1) Q q
theorem EvB.mono (e : Ex H H') (h : EvB te σ H m) : EvB te σ H' m := fun H1 e1 Q q => h H1 (e.trans e1) Q q
theorem ew_var {p : Addr} {ns : List Int} (hi : σ[i]? = some (some (.ref p))) (h : H p = some (.lst (ns.map V.int))) (hb : ∀ x ∈ ns, inByte x) (hl : ns.length ≤ m) : EvW (tVar i) σ H m := fun H1 e Q q => ev_var hi H1 (Ex.refl _) _ fun H2 e2 => q p H2 ns e2 (e2 _ _ (e _ _ h)) hb hl
theorem eb_ofL {ns : List Int} (h : EvL te σ H (ns.map V.int)) (hb : ∀ x ∈ ns, inByte x) (hl : ns.length ≤ m) : EvB te σ H m := fun H1 e Q q => h H1 e Q fun p H2 hp e2 h2 => q p H2 ns hp e2 h2 hb hl
theorem eb_cat (h : EvW ta σ H m1) (h2 : EvW tb σ H m2) (hz : m1 + m2 ≤ 1000000) : EvB (tOp rAddX ta tb) σ H (m1 + m2) := fun H1 e Q q =>
  h H1 e _ fun p H2 ns e2 hp hb hl => h2 H2 (e.trans e2) _ fun p3 H3 ms e3 hp3 hb3 hl3 => .inr (.inr (.inr ⟨p, p3, _, _, rfl, rfl, e3 _ _ hp, hp3, by rw [sizeLine_eq, List.length_map, List.length_map]; omega, fun r hr => q r _ (ns ++ ms) (fresh_back (e2.trans e3) hr) ((e2.trans e3).trans (Ex.new hr)) (by rw [List.map_append]; exact upd_same) (fun x hx => by
    rcases List.mem_append.mp hx with z | z
    · exact hb x z
    · exact hb3 x z) (by rw [List.length_append]; omega)⟩))
/-- [0] * k -/
theorem eb_zeros {k : Int} {tk : TE} (hk : Ev tk σ H (.int k)) (h0 : 0 ≤ k ∧ k ≤ 100000) (hm : k.toNat ≤ m) : EvB (tOp rMulX (tLst (tCons (tC (.int 0)) tNil)) tk) σ H m := by
  have g := el_repL (σ := σ) (H := H) (ta := tLst (tCons (tC (.int 0)) tNil)) (tb := tk) (xs := [.int 0]) (m := k) (el_lst (ea_cons ev_c ea_nil) (by simp)) hk h0 (by simp; omega)
  rw [rep_one, ← List.map_replicate] at g
  exact eb_ofL g (fun x hx => by rw [List.eq_of_mem_replicate hx]; exact ⟨by decide, by decide⟩) (by rw [List.length_replicate]; exact hm)
theorem eb_slice {tl th : TO} {lo hi : Option Int} (h : EvW te σ H m) (h1 : EvO tl σ H lo) (h2 : EvO th σ H hi) (hm : ∀ xs : List V, xs.length ≤ m → (cutV xs lo hi).length ≤ m1) (hc : ∀ ns : List Int, ∃ ms : List Int, cutV (ns.map V.int) lo hi = ms.map V.int ∧ ∀ x ∈ ms, x ∈ ns) : EvB (tSl (rSlX K) te tl th) σ H m1 := fun H1 e1 Q q =>
  h H1 e1 _ fun a H2 ns e2 h3 hb hl => h1 H2 (e1.trans e2) _ fun H3 e3 => h2 H3 ((e1.trans e2).trans e3) _ fun H4 e4 => .inr (.inr ⟨a, _, rfl, sq_of (e4 _ _ (e3 _ _ h3)), fun p hp => by
    obtain ⟨ms, e5, hms⟩ := hc ns
    refine q p _ ms (fresh_back ((e2.trans e3).trans e4) hp) (((e2.trans e3).trans e4).trans (Ex.new hp)) (by rw [upd_same, e5]) (fun x hx => hb x (hms x hx)) ?_
    have := hm (ns.map V.int) (by rw [List.length_map]; exact hl)
    rw [e5, List.length_map] at this
    exact this⟩)
theorem cutV_map (ns : List Int) (lo hi : Option Int) : ∃ ms : List Int, cutV (ns.map V.int) lo hi = ms.map V.int ∧ ∀ x ∈ ms, x ∈ ns := by
  unfold cutV
  refine ⟨_, by rw [← List.map_drop, ← List.map_take], fun x hx => List.mem_of_mem_drop (List.mem_of_mem_take hx)⟩
theorem eb_to {n : Nat} {tn : TE} (h : EvW te σ H m) (hn : Ev tn σ H (.int (n : Int))) : EvB (tSl (rSlX K) te tNoPart (tPart tn)) σ H n := eb_slice h eo_none (eo_n hn) (fun xs hx => by rw [cutV_to, List.length_take]; omega) fun ns => cutV_map ns _ _
theorem eb_call {sp : Sp} {dvs vs : List V} {E : XK} {t : TA} (h : EvA t σ H vs) (hs : ∀ H1, Ex H H1 → ∀ Q E, NewB m H1 Q → sp (vs ++ dvs) H1 Q E) : EvB (tCall sp dvs E t) σ H m := fun H1 e Q q =>
  h H1 e _ fun H2 e2 => hs H2 (e.trans e2) Q E fun p H3 ns hp e3 h3 hb hl => q p H3 ns (fresh_back e2 hp) (e2.trans e3) h3 hb hl
theorem q_asgW (h : EvW te σ H m) (k : ∀ p H1 (ns : List Int), Ex H H1 → H1 p = some (.lst (ns.map V.int)) → (∀ x ∈ ns, inByte x) → ns.length ≤ m → tz D (σ.set i (some (.ref p))) H1) : tSeq (tAsg te (gName i)) tz D σ H := h H (Ex.refl _) _ fun p H1 ns e h1 hb hl => k p H1 ns e h1 hb hl
theorem s_asgW (h : EvW te σ H m) (k : ∀ p H1 (ns : List Int), Ex H H1 → H1 p = some (.lst (ns.map V.int)) → (∀ x ∈ ns, inByte x) → ns.length ≤ m → D.nx (σ.set i (some (.ref p))) H1) : tAsg te (gName i) D σ H := h H (Ex.refl _) _ fun p H1 ns e h1 hb hl => k p H1 ns e h1 hb hl
theorem eb_codes {t : List Nat} (h : Ev te σ H (.str (SX.S t))) (ha : asc t) (hl : t.length ≤ 2000) (hm : t.length ≤ m) : EvB (tCall spCodes [] C8.E0 (tCons te tNil)) σ H m := eb_call (ea_cons h ea_nil) fun H1 e Q E q => ⟨t, rfl, ha, hl, q.le hm⟩
theorem eb_octal {z : Int} {n : Nat} (h : Ev te σ H (.int z)) (h1 : 1 ≤ n) (h2 : n ≤ 12) : EvB (tCall spOctal [] C8.E0 (tCons te (tCons (tC (.int (n : Int))) tNil))) σ H n := eb_call (ea_cons h (ea_cons ev_c ea_nil)) fun H1 e Q E q => ⟨z, n, rfl, h1, h2, q⟩
theorem eb_filled (h : EvW te σ H m) (hm : m ≤ 50000) : EvB (tCall spFilled [] C8.E0 (tCons te tNil)) σ H (m + 511) := fun H1 e Q q => by
  show te σ H1 fun v H2 => spFilled [v] H2 Q C8.E0
  refine h H1 e _ fun p H2 ns e2 h2 hb hl => ⟨p, ns, rfl, h2, hb, by omega, fun p3 H3 k hp3 e3 hk hmod h3 => q p3 H3 _ (fresh_back e2 hp3) (e2.trans e3) h3 (fun x hx => ?_) ?_⟩
  · rcases List.mem_append.mp hx with z | z
    · exact hb x z
    · rw [List.eq_of_mem_replicate z]
      exact ⟨by decide, by decide⟩
  · rw [List.length_append, List.length_replicate]
    omega
theorem s_retNew {H0 : Hp} {Q : VK} (q : NewB m H0 Q) (hD : D.rt = Q) (e : Ex H0 H) (h : EvB te σ H m) : tRet te D σ H := h H (Ex.refl _) D.rt fun p H2 ns hp e2 h2 hb hl => by
  rw [hD]
  exact q p H2 ns (fresh_back e hp) (e.trans e2) h2 hb hl
theorem ev_sumV {p : Addr} {ns : List Int} (hi : σ[i]? = some (some (.ref p))) (h : H p = some (.lst (ns.map V.int))) : Ev (tCB (rSumX K) (tCons (tVar i) tNil)) σ H (.int ns.sum) := fun H1 e Q q => ev_var hi H1 (Ex.refl _) _ fun H2 e2 => .inr ⟨p, ns, rfl, sq_of (e2 _ _ (e _ _ h)), q H2 e2⟩
end
section
variable {P : Program} {w : World} {K : PySem.W.Frag} {mg : Str → Option Value} {base : Heap}
def spHead (K : PySem.W.Frag) : Sp := fun vs H Q _ => ∃ (k n g : List Nat) (p : Addr) (a b c : Int), vs = [.str (SX.S k), .str (SX.S n), .ref p, .str (SX.S g)] ∧ SqT K H p [.int a, .int b, .int c] ∧ asc k ∧ asc n ∧ asc g ∧ k.length ≤ 10 ∧ n.length ≤ 300 ∧ g.length ≤ 300 ∧ NewB 600 H Q
theorem asc_ustar : asc kMAG := by
  unfold asc kMAG
  decide
theorem sc__law_head : FnScope ["_law_kind", "_law_name", "_law_numbers", "_law_target", "_law_front", "_law_behind"] ["_law_kind", "_law_name", "_law_numbers", "_law_target"] (defScope (topS 99)) := ⟨rfl, rfl, rfl, by decide +kernel, rfl, by decide +kernel, by decide +kernel⟩
theorem ok__law_head (g : GF K mg) (D : D0 K mg "_law_head" (topS 99)) (c_law_octal : C8.Cal P w K mg base 1 "_law_octal" (spOctal) []) (c_law_codes : C8.Cal P w K mg base 1 "_law_codes" (spCodes) [])  : C8.Cal P w K mg base 2 "_law_head" (spHead K) [] := by
  refine calD D (fun _ _ _ _ _ _ us hl => match us, hl with | [_, _, _, _], _ => rfl) sc__law_head (fun vs H Q E h => by obtain ⟨k, n, g0, p, a, b, c, rfl, ht, hk, hn, hg, lk, ln, lg, q⟩ := h; rfl) fun f cdv A outer s H vs Q E hr h => ?_
  have hu := hr.units
  have hu1 := hu_of hr
  obtain ⟨k, n, g0, p, a, b, c, rfl, ht, hk, hn, hg, lk, ln, lg, q⟩ := h
  refine ⟨_, pss_cons (ps_set (i := 4) sc__law_head.nd rfl (Or.inl rfl) (pe_op op_addX (pe_op op_addX (pe_op op_addX (pe_slice (sl_X (K := K)) (pe_op op_addX (C8.pe_c c_law_codes hr (by decide) rfl (pa_cons (pv 1) (pa_nil))) (pe_op op_mulX (pe_lst (pa_cons (pe_int) (pa_nil))) (pe_int))) (po_none) (po_some (pe_int))) (C8.pe_c c_law_octal hr (by decide) rfl (pa_cons (pe_ix (ix_X (K := K)) (pv 2) (pe_int) (fun _ _ => rfl)) (pa_cons (pe_int) (pa_nil))))) (C8.pe_c c_law_octal hr (by decide) rfl (pa_cons (pe_int) (pa_cons (pe_int) (pa_nil))))) (C8.pe_c c_law_octal hr (by decide) rfl (pa_cons (pe_int) (pa_cons (pe_int) (pa_nil))))))
      (pss_cons (ps_set (i := 4) sc__law_head.nd rfl (Or.inl rfl) (pe_op op_addX (pe_op op_addX (pv 4) (C8.pe_c c_law_octal hr (by decide) rfl (pa_cons (pe_ix (ix_X (K := K)) (pv 2) (pe_int) (fun _ _ => rfl)) (pa_cons (pe_int) (pa_nil))))) (C8.pe_c c_law_octal hr (by decide) rfl (pa_cons (pe_ix (ix_X (K := K)) (pv 2) (pe_int) (fun _ _ => rfl)) (pa_cons (pe_int) (pa_nil))))))
      (pss_cons (ps_set (i := 5) sc__law_head.nd rfl (Or.inl rfl) (pe_op op_addX (pe_op op_addX (pe_op op_addX (pe_op op_addX (C8.pe_c c_law_codes hr (by decide) rfl (pa_cons (pv 0) (pa_nil))) (pe_slice (sl_X (K := K)) (pe_op op_addX (C8.pe_c c_law_codes hr (by decide) rfl (pa_cons (pv 3) (pa_nil))) (pe_op op_mulX (pe_lst (pa_cons (pe_int) (pa_nil))) (pe_int))) (po_none) (po_some (pe_int)))) (C8.pe_c c_law_codes hr (by decide) rfl (pa_cons (pe_str) (pa_nil)))) (pe_lst (pa_cons (pe_int) (pa_cons (pe_int) (pa_cons (pe_int) (pa_nil)))))) (pe_op op_mulX (pe_lst (pa_cons (pe_int) (pa_nil))) (pe_int))))
      (pss_one (ps_ret (pe_op op_addX (pe_op op_addX (pe_op op_addX (pv 4) (C8.pe_c c_law_octal hr (by decide) rfl (pa_cons (pe_op op_addX (pe_op op_addX (pe_callB (cr_sumX (K := K) rfl) rfl g.n_sum bo_sum (pa_cons (pv 4) (pa_nil))) (pe_callB (cr_sumX (K := K) rfl) rfl g.n_sum bo_sum (pa_cons (pv 5) (pa_nil)))) (pe_int)) (pa_cons (pe_int) (pa_nil))))) (pe_lst (pa_cons (pe_int) (pa_nil)))) (pv 5)))))), ?_⟩
  have hix : ∀ {σ : L2.St} {H1 : Hp} {j : Int} {v : V}, σ[2]? = some (some (.ref p)) → Ex H H1 → atI [V.int a, V.int b, V.int c] j = some v → Ev (tOp (rIx K) (tVar 2) (tC (.int j))) σ H1 v := fun {σ H1 j v} h e hv => ev_ixT (ev_var h) ev_c (ex_t e ht) hv
  have c0 : ∀ {σ : L2.St} {H1 : Hp} {z : Int}, Ev (tC (.int z)) σ H1 (.int z) := ev_c
  refine q_asgW (m := 100 + 8 + 8 + 8) (eb_cat (eb_cat (eb_cat (eb_to (m := 300 + 100) (n := 100) (eb_cat (eb_codes (m := 300) (ev_var rfl) hn (by omega) (by omega)).w (eb_zeros (m := 100) (k := 100) c0 (by decide) (by decide)).w (by decide)).w c0).w (eb_octal (n := 8) (hix rfl (Ex.refl _) rfl) (by decide) (by decide)).w (by decide)).w (eb_octal (n := 8) c0 (by decide) (by decide)).w (by decide)).w (eb_octal (n := 8) c0 (by decide) (by decide)).w (by decide)).w fun p4 H1 ns1 e1 h1 b1 l1 => ?_
  refine q_asgW (m := 124 + 12 + 12) (eb_cat (eb_cat (ew_var (m := 124) (ns := ns1) rfl h1 b1 l1) (eb_octal (n := 12) (hix rfl e1 rfl) (by decide) (by decide)).w (by decide)).w (eb_octal (n := 12) (hix rfl e1 rfl) (by decide) (by decide)).w (by decide)).w fun p5 H2 ns2 e2 h2 b2 l2 => ?_
  refine q_asgW (m := 10 + 100 + 5 + 3 + 247) (eb_cat (eb_cat (eb_cat (eb_cat (eb_codes (m := 10) (ev_var rfl) hk (by omega) lk).w (eb_to (m := 300 + 100) (n := 100) (eb_cat (eb_codes (m := 300) (ev_var rfl) hg (by omega) (by omega)).w (eb_zeros (m := 100) (k := 100) c0 (by decide) (by decide)).w (by decide)).w c0).w (by decide)).w (eb_codes (m := 5) (t := kMAG) (ev_lit rfl) asc_ustar (by decide) (by decide)).w (by decide)).w (eb_ofL (m := 3) (ns := [0, 48, 48]) (el_lst (ea_cons ev_c (ea_cons ev_c (ea_cons ev_c ea_nil))) (by decide)) (by decide) (by decide)).w (by decide)).w (eb_zeros (m := 247) (k := 247) c0 (by decide) (by decide)).w (by decide)).w fun p6 H3 ns3 e3 h3 b3 l3 => ?_
  exact s_retNew q rfl ((e1.trans e2).trans e3) (EvB.le (eb_cat (eb_cat (eb_cat (ew_var (m := 148) (ns := ns2) rfl (e3 _ _ h2) b2 l2) (eb_octal (n := 7) (ev_op (ev_op (ev_sumV rfl (e3 _ _ h2)) (ev_sumV rfl h3) rv_addI) (c0 (z := 256)) rv_addI) (by decide) (by decide)).w (by decide)).w (eb_ofL (m := 1) (ns := [32]) (el_lst (ea_cons ev_c ea_nil) (by decide)) (by decide) (by decide)).w (by decide)).w (ew_var (m := 365) (ns := ns3) rfl h3 b3 l3) (by decide)) (by decide))
def spLong : Sp := fun vs H Q _ => ∃ k t : List Nat, vs = [.str (SX.S k), .str (SX.S t)] ∧ asc k ∧ asc t ∧ k.length ≤ 10 ∧ t.length ≤ 300 ∧ NewB 1500 H Q
theorem asc_LL : asc kLL := by
  unfold asc kLL
  decide
theorem eb_head {σ : L2.St} {H : Hp} {t1 t2 t3 t4 : TE} {k n g : List Nat} {a b c : Int} (h1 : Ev t1 σ H (.str (SX.S k))) (h2 : Ev t2 σ H (.str (SX.S n))) (h3 : EvU t3 σ H [.int a, .int b, .int c]) (h4 : Ev t4 σ H (.str (SX.S g))) (hk : asc k) (hn : asc n) (hg : asc g) (lk : k.length ≤ 10) (ln : n.length ≤ 300) (lg : g.length ≤ 300) : EvB (tCall (spHead K) [] C8.E0 (tCons t1 (tCons t2 (tCons t3 (tCons t4 tNil))))) σ H 600 := fun H1 e Q q => by
  show t1 σ H1 fun v1 H2 => t2 σ H2 fun v2 H3 => t3 σ H3 fun v3 H4 => t4 σ H4 fun v4 H5 => spHead K [v1, v2, v3, v4] H5 Q C8.E0
  refine h1 H1 e _ fun H2 e2 => h2 H2 (e.trans e2) _ fun H3 e3 => h3 H3 ((e.trans e2).trans e3) _ fun p H4 hp e4 hh => h4 H4 (((e.trans e2).trans e3).trans e4) _ fun H5 e5 => ⟨k, n, g, p, a, b, c, rfl, st_of (e5 _ _ hh), hk, hn, hg, lk, ln, lg, fun p6 H6 ns hp6 e6 h6 hb hl => ?_⟩
  have e15 := ((e2.trans e3).trans e4).trans e5
  exact q p6 H6 ns (fresh_back e15 hp6) (e15.trans e6) h6 hb hl
theorem sc__law_long : FnScope ["_law_kind", "_law_text"] ["_law_kind", "_law_text"] (defScope (topS 102)) := ⟨rfl, rfl, rfl, by decide +kernel, rfl, by decide +kernel, by decide +kernel⟩
theorem ok__law_long (g : GF K mg) (D : D0 K mg "_law_long" (topS 102)) (c_law_head : C8.Cal P w K mg base 2 "_law_head" (spHead K) []) (c_law_filled : C8.Cal P w K mg base 1 "_law_filled" (spFilled) []) (c_law_codes : C8.Cal P w K mg base 1 "_law_codes" (spCodes) [])  : C8.Cal P w K mg base 3 "_law_long" (spLong) [] := by
  refine calD D (fun _ _ _ _ _ _ us hl => match us, hl with | [_, _], _ => rfl) sc__law_long (fun vs H Q E h => by obtain ⟨k, t, rfl, hk, ht, lk, lt, q⟩ := h; rfl) fun f cdv A outer s H vs Q E hr h => ?_
  have hu := hr.units
  have hu1 := hu_of hr
  obtain ⟨k, t, rfl, hk, ht, lk, lt, q⟩ := h
  refine ⟨_, pss_cons (ps_if (pt_cmpR op_le (pe_callB (cr_lenX (K := K)) rfl g.n_len bo_len (pa_cons (pv 1) (pa_nil))) (pe_int) (nomark _)) (pss_one (ps_ret (pe_lst (pa_nil)))) (pss_nil))
      (pss_one (ps_ret (pe_op op_addX (C8.pe_c c_law_head hr (by decide) rfl (pa_cons (pv 0) (pa_cons (pe_str) (pa_cons (pe_tup (pa_cons (pe_int) (pa_cons (pe_op op_addX (pe_callB (cr_lenX (K := K)) rfl g.n_len bo_len (pa_cons (pv 1) (pa_nil))) (pe_int)) (pa_cons (pe_int) (pa_nil))))) (pa_cons (pe_str) (pa_nil)))))) (C8.pe_c c_law_filled hr (by decide) rfl (pa_cons (pe_op op_addX (C8.pe_c c_law_codes hr (by decide) rfl (pa_cons (pv 1) (pa_nil))) (pe_lst (pa_cons (pe_int) (pa_nil)))) (pa_nil)))))), ?_⟩
  refine q_when (et_test (ev_op (ev_cb1 (ev_var rfl) (rc_lenT (by omega))) ev_c rv_le)) (fun hb H1 e1 => ?_) fun hb H1 e1 => ?_
  · exact s_retNew q rfl e1 (eb_ofL (ns := []) (el_lst ea_nil (by decide)) (fun x h => by cases h) (by decide))
  · exact s_retNew q rfl e1 (EvB.le (eb_cat (eb_head (k := k) (n := kLL) (g := []) (ev_var rfl) (ev_lit rfl) (eu_tup (ea_cons ev_c (ea_cons (ev_op (ev_cb1 (ev_var rfl) (rc_lenT (l := t) (by omega))) ev_c rv_addI) (ea_cons ev_c ea_nil))) (show (3 : Nat) ≤ 100000 by decide)) (ev_lit rfl) hk asc_LL (fun c hc => by cases hc) lk (by decide) (by decide)).w (eb_filled (m := 300 + 1) (eb_cat (eb_codes (m := 300) (ev_var rfl) ht (by omega) lt).w (eb_ofL (m := 1) (ns := [0]) (el_lst (ea_cons ev_c ea_nil) (by decide)) (by decide) (by decide)).w (by decide)).w (by decide)).w (by decide)) (by decide))
end
end Tar

/-! TaQ9 -/
set_option Elab.async false
set_option linter.all false
set_option maxRecDepth 100000
set_option maxHeartbeats 400000
/-! the law's own writer, 3: stored bytes -/
namespace Tar
open PySem PySem.Spec PyProof.Rows L2 Evl
theorem numL_asc (n : Nat) : asc (TL.numL n) := by
  induction n using Nat.strongRecOn with
  | ind n ih =>
    intro c hc
    by_cases h : n < 10
    · rw [TL.numL_lt h] at hc
      have := List.mem_singleton.mp hc
      omega
    · rw [TL.numL_step (by omega)] at hc
      rcases List.mem_append.mp hc with q | q
      · exact ih (n / 10) (by omega) c q
      · have := List.mem_singleton.mp q
        omega
abbrev No : Addr → Prop := fun _ => False
theorem exA_of {av : Addr → Prop} {H H' : Hp} (e : Ex H H') : ExA av H H' := fun a o _ h => e a o h
section
variable {K : PySem.W.Frag} {σ : L2.St} {H H' : Hp} {ta tb te : TE} {m m1 m2 : Nat} {D : Ends} {tz : TS} {i : Nat}
theorem rc_strN {n : Nat} (hn : n < 10 ^ 12) : RC (fun xs H Q => ∃ i : Int, xs = [.int i] ∧ i.natAbs.log2 < 1920 ∧ Q (.str (toString i)) H) [.int (n : Int)] H (.str (SX.S (TL.numL n))) := fun H1 _ Q q => ⟨(n : Int), rfl, by
  show n.log2 < 1920
  by_cases h0 : n = 0
  · rw [h0]
    decide
  · have : n.log2 < 64 := (Nat.log2_lt h0).mpr (by omega)
    omega, by
  have e : (toString ((n : Nat) : Int) : Str) = SX.S (TL.numL n) := SX.num_S n
  rw [e]
  exact q H1 (Ex.refl _)⟩
theorem s_retW {Q : VK} {p : Addr} {H0 : Hp} (hi : σ[i]? = some (some (.ref p))) (hD : D.rt = Q) (k : ∀ H1, Ex H H1 → Q (.ref p) H1) : tRet (tVar i) D σ H := s_ret (ev_var hi) fun H1 e => by
  rw [hD]
  exact k H1 e
end
/-- ints from 0 to 5000 -/
def sml (xs : List Int) : Prop := ∀ x ∈ xs, 0 ≤ x ∧ x ≤ 5000
section
variable {P : Program} {w : World} {K : PySem.W.Frag} {mg : Str → Option Value} {base : Heap}
def spLStored : Sp := fun vs H Q _ => ∃ v : V, vs = [v] ∧ MbR No v H ∧ ∀ p H' (ns : List Int), Ex H H' → H' p = some (.lst (ns.map V.int)) → (∀ x ∈ ns, inByte x) → ns.length ≤ 2500 → Q (.ref p) H'
theorem sc__law_stored : FnScope ["_law_one", "_law_lines", "_law_begin", "_law_numbers", "_law_found", "_law_number"] ["_law_one"] (defScope (topS 101)) := ⟨rfl, rfl, rfl, by decide +kernel, rfl, by decide +kernel, by decide +kernel⟩
theorem ok__law_stored (g : GF K mg) (D : D0 K mg "_law_stored" (topS 101)) (c_law_filled : C8.Cal P w K mg base 1 "_law_filled" (spFilled) []) (c_law_codes : C8.Cal P w K mg base 1 "_law_codes" (spCodes) [])  : C8.Cal P w K mg base 2 "_law_stored" (spLStored) [] := by
  refine calD D (fun _ _ _ _ _ _ us hl => match us, hl with | [_], _ => rfl) sc__law_stored (fun vs H Q E h => by obtain ⟨v, rfl, hv, q⟩ := h; rfl) fun f cdv A outer s H vs Q E hr h => ?_
  have hu := hr.units
  have hu1 := hu_of hr
  obtain ⟨v, rfl, hv, q⟩ := h
  refine ⟨_, pss_cons (ps_if (pt_cmpR (op_eqX (K := K) hu) (pe_ix (ix_X (K := K)) (pv 0) (pe_int) (fun _ _ => rfl)) (pe_str) (nomark _)) (pss_one (ps_ret (pe_ix (ix_X (K := K)) (pv 0) (pe_int) (fun _ _ => rfl)))) (pss_nil))
      (pss_cons (ps_if (pt_cmpR (op_neX (K := K) hu) (pe_ix (ix_X (K := K)) (pv 0) (pe_int) (fun _ _ => rfl)) (pe_str) (nomark _)) (pss_one (ps_ret (pe_lst (pa_nil)))) (pss_nil))
      (pss_cons (ps_set (i := 1) sc__law_stored.nd rfl (Or.inl rfl) (pe_lst (pa_cons (pe_ix (ix_X (K := K)) (pv 0) (pe_int) (fun _ _ => rfl)) (pa_cons (pe_callB (cr_lenX (K := K)) rfl g.n_len bo_len (pa_cons (pe_ix (ix_X (K := K)) (pv 0) (pe_int) (fun _ _ => rfl)) (pa_nil))) (pa_nil)))))
      (pss_cons (ps_for PassesOwn.never rfl (pi_listK (K := K) (pe_ix (ix_X (K := K)) (pv 0) (pe_int) (fun _ _ => rfl))) (pg_tupK (K := K) (n := 2) rfl (pgs_cons (pg_name (i := 2) sc__law_stored.nd rfl (Or.inl rfl)) (pgs_cons (pg_name (i := 3) sc__law_stored.nd rfl (Or.inl rfl)) (pgs_nil))))
      (pss_one (ps_set (i := 1) sc__law_stored.nd rfl (Or.inl rfl) (pe_op op_addX (pv 1) (pe_lst (pa_cons (pv 2) (pa_cons (pe_callB (cr_lenX (K := K)) rfl g.n_len bo_len (pa_cons (pv 3) (pa_nil))) (pa_nil))))))))
      (pss_cons (ps_set (i := 4) sc__law_stored.nd rfl (Or.inl rfl) (pe_lst (pa_nil)))
      (pss_cons (ps_for PassesOwn.never rfl (pi_listK (K := K) (pv 1)) (pg_name (i := 5) sc__law_stored.nd rfl (Or.inl rfl))
      (pss_one (ps_set (i := 4) sc__law_stored.nd rfl (Or.inl rfl) (pe_op op_addX (pe_op op_addX (pv 4) (C8.pe_c c_law_codes hr (by decide) rfl (pa_cons (pe_callTy call_str_int rfl g.n_str bo_str (pa_cons (pv 5) (pa_nil))) (pa_nil)))) (pe_lst (pa_cons (pe_int) (pa_nil)))))))
      (pss_cons (ps_set (i := 4) sc__law_stored.nd rfl (Or.inl rfl) (C8.pe_c c_law_filled hr (by decide) rfl (pa_cons (pv 4) (pa_nil))))
      (pss_cons (ps_for PassesOwn.never rfl (pi_listK (K := K) (pe_ix (ix_X (K := K)) (pv 0) (pe_int) (fun _ _ => rfl))) (pg_tupK (K := K) (n := 2) rfl (pgs_cons (pg_name (i := 2) sc__law_stored.nd rfl (Or.inl rfl)) (pgs_cons (pg_name (i := 3) sc__law_stored.nd rfl (Or.inl rfl)) (pgs_nil))))
      (pss_one (ps_set (i := 4) sc__law_stored.nd rfl (Or.inl rfl) (pe_op op_addX (pv 4) (pv 3)))))
      (pss_one (ps_ret (pv 4)))))))))), ?_⟩
  obtain ⟨p, k, nm, b, t, rest, rfl, _, hp, hnm, b0, b1, t0, t1, hr⟩ := hv
  have hix : ∀ {σ : L2.St} {H1 : Hp} (j : Nat) {z : Int} {v : V}, z = (j : Int) → σ[0]? = some (some (.ref p)) → Ex H H1 → (.str k :: nm :: .int b :: .int t :: rest)[j]? = some v → Ev (tOp (rIx K) (tVar 0) (tC (.int z))) σ H1 v := fun {σ H1} j {z v} hz h e hv => by
    subst hz
    exact ev_ixL (ev_var h) ev_c (sq_of (e _ _ hp)) (atI_nat hv)
  refine q_when (et_test (ev_op (x := .str k) (hix 0 rfl rfl (Ex.refl _) rfl) ev_c (rv_eqX rfl))) (fun hb H1 e1 => ?_) fun hb1 H1 e1 => ?_
  · have hk : k = "file" := by simpa using hb
    rcases hr with ⟨_, r, rfl, pr, ns, rfl, _, h1, h2, h3⟩ | ⟨h, _⟩ | ⟨h, _⟩ | ⟨h, _⟩
    · exact s_ret (hix 4 rfl rfl e1 rfl) fun H2 e2 => q pr H2 ns (e1.trans e2) ((e1.trans e2) _ _ h1) h2 (by omega)
    · rw [hk] at h; exact absurd h (by decide)
    · rw [hk] at h; exact absurd h (by decide)
    · rw [hk] at h; exact absurd h (by decide)
  · refine q_when (et_test (ev_op (x := .str k) (hix 0 rfl rfl e1 rfl) ev_c (rv_neX rfl))) (fun hb H2 e2 => ?_) fun hb2 H2 e2 => ?_
    · exact s_retNew (m := 0) (fun p3 H3 ns hp3 e3 h3 hb3 hl3 => q p3 H3 ns e3 h3 hb3 (by omega)) rfl (e1.trans e2) (eb_ofL (ns := []) (el_lst ea_nil (by decide)) (fun x h => by cases h) (by decide))
    · have hk : k = "sparse" := by simpa using hb2
      have e02 := e1.trans e2
      obtain ⟨z, qa, as, rfl, z0, z1, hqa, hal, has⟩ : ∃ (z : Int) (qa : Addr) (as : List Addr), rest = [.int z, .ref qa] ∧ 0 ≤ z ∧ z ≤ 4096 ∧ H qa = some (.lst (as.map V.ref)) ∧ as.length ≤ 6 ∧ ∀ a ∈ as, ∃ (b : Int) (pr : Addr) (ns : List Int), H a = some (.tup [.int b, .ref pr]) ∧ 0 ≤ b ∧ b ≤ 5000 ∧ H pr = some (.lst (ns.map V.int)) ∧ (∀ x ∈ ns, inByte x) ∧ ns.length ≤ 300 := by
        rcases hr with ⟨h, _⟩ | ⟨_, z, qv, rfl, z0, z1, qa, as, rfl, _, g1, g2, g3⟩ | ⟨h, _⟩ | ⟨h, _⟩
        · rw [hk] at h; exact absurd h (by decide)
        · refine ⟨z, qa, as, rfl, z0, z1, g1, g2, fun a ha => ?_⟩
          obtain ⟨b, r, _, h1, h2, h3, pr, ns, rfl, _, h4, h5, h6⟩ := g3 a ha
          exact ⟨b, pr, ns, h1, h2, h3, h4, h5, h6⟩
        · rw [hk] at h; exact absurd h (by decide)
        · rcases h with h | h <;> (rw [hk] at h; exact absurd h (by decide))
      have hlen : (as.map V.ref).length = as.length := List.length_map _
      have elem : ∀ {i : Nat} {x : V}, (as.map V.ref)[i]? = some x → ∃ (a : Addr) (b : Int) (pr : Addr) (ns : List Int), x = .ref a ∧ H a = some (.tup [.int b, .ref pr]) ∧ 0 ≤ b ∧ b ≤ 5000 ∧ H pr = some (.lst (ns.map V.int)) ∧ (∀ x ∈ ns, inByte x) ∧ ns.length ≤ 300 := fun {i x} hx => by
        rw [List.getElem?_map] at hx
        obtain ⟨a, ha, rfl⟩ := Option.map_eq_some_iff.mp hx
        obtain ⟨b, pr, ns, h⟩ := has a (List.mem_of_getElem? ha)
        exact ⟨a, b, pr, ns, rfl, h⟩
      have five : ∀ {σ : L2.St} {H1 : Hp}, σ[0]? = some (some (.ref p)) → Ex H H1 → Ev (tOp (rIx K) (tVar 0) (tC (.int 5))) σ H1 (.ref qa) := fun {σ H1} h e => hix 5 rfl h e rfl
      refine q_asgL (xs := [.int z, .int (as.length : Int)]) (el_lst (ea_cons (hix 4 rfl rfl e02 rfl) (ea_cons (ev_is (ev_cb1 (five rfl e02) (rc_lenL (sq_of (e02 _ _ hqa)))) (by rw [hlen])) ea_nil)) (show (2 : Nat) ≤ 100000 by decide)) fun l H3 hl e3 h3 => ?_
      have e03 := e02.trans e3
      refine q_forL (five rfl e03) (sq_of (e03 _ _ hqa)) (fun i σ' H' => ∃ (l : Addr) (xs : List Int) (x2 x3 : Option V), σ' = [some (.ref p), some (.ref l), x2, x3, none, none] ∧ Ex H H' ∧ H' l = some (.lst (xs.map V.int)) ∧ xs.length = 2 + 2 * i ∧ sml xs) (fun H4 e4 => ⟨l, [z, (as.length : Int)], _, _, rfl, e03.trans e4, e4 _ _ h3, rfl, fun x hx => ?_⟩) (fun i σ' H' _ p4 => ?_) (fun i x σ' H' hx p4 => ?_) fun σ' H' p4 => ?_
      · simp only [List.mem_cons, List.not_mem_nil, or_false] at hx
        rcases hx with rfl | rfl
        · exact ⟨z0, by omega⟩
        · exact ⟨by omega, by omega⟩
      · obtain ⟨_, _, _, _, _, e, _⟩ := p4
        exact sq_of (e _ _ hqa)
      · obtain ⟨l4, xs, x2, x3, rfl, e4, h4, hn4, hs4⟩ := p4
        obtain ⟨a, bb, pr, ns, rfl, g1, g2, g3, g4, g5, g6⟩ := elem hx
        have hi : i < as.length := by
          have := (List.getElem?_eq_some_iff.mp hx).1
          omega
        refine ⟨a, _, rfl, st_of (e4 _ _ g1), rfl, _, _, rfl, _, _, rfl, rfl, ?_⟩
        have hln : (ns.map V.int).length = ns.length := List.length_map _
        refine s_asgL (xs := (xs ++ [bb, (ns.length : Int)]).map V.int) ?_ fun l5 H5 hl5 e5 h5 => ⟨l5, xs ++ [bb, (ns.length : Int)], _, _, rfl, e4.trans e5, h5, by rw [List.length_append, hn4]; show 2 + 2 * i + 2 = 2 + 2 * (i + 1); omega, fun x hx => ?_⟩
        · rw [List.map_append]
          exact el_catV (ev_var rfl) h4 (el_lst (ea_cons (ev_var rfl) (ea_cons (ev_is (ev_cb1 (ev_var rfl) (rc_lenL (sq_of (e4 _ _ g4)))) (by rw [hln])) ea_nil)) (show (2 : Nat) ≤ 100000 by decide)) (by rw [List.length_map, hn4]; show 2 + 2 * i + 2 ≤ _; omega)
        · rcases List.mem_append.mp hx with h | h
          · exact hs4 x h
          · simp only [List.mem_cons, List.not_mem_nil, or_false] at h
            rcases h with rfl | rfl
            · exact ⟨g2, g3⟩
            · exact ⟨by omega, by omega⟩
      · obtain ⟨l4, xs, x2, x3, rfl, e4, h4, hn4, hs4⟩ := p4
        rw [hlen] at hn4
        refine q_asgL (xs := []) (el_lst ea_nil (by decide)) fun f0 H5 hf0 e5 h5 => ?_
        have hlx : (xs.map V.int).length = xs.length := List.length_map _
        refine q_forLn (xs := xs.map V.int) (ev_var rfl) (sq_of (e5 _ _ h4)) (fun i σ' H' => ∃ (f : Addr) (ns : List Int) (x5 : Option V), σ' = [some (.ref p), some (.ref l4), x2, x3, some (.ref f), x5] ∧ Ex H H' ∧ H' l4 = some (.lst (xs.map V.int)) ∧ H' f = some (.lst (ns.map V.int)) ∧ (∀ x ∈ ns, inByte x) ∧ ns.length ≤ 6 * i) (fun H6 e6 => ⟨f0, [], _, rfl, (e4.trans e5).trans e6, (e5.trans e6) _ _ h4, e6 _ _ h5, fun x hx => (by cases hx), Nat.le_refl _⟩) (fun i σ' H' _ p6 => ?_) (fun i x σ' H' hx p6 => ?_) fun σ' H' p6 => ?_
        · obtain ⟨_, _, _, _, _, h, _⟩ := p6
          exact sq_of h
        · obtain ⟨f6, ns, x5, rfl, e6, hl6, hf6, hb6, hn6⟩ := p6
          rw [List.getElem?_map] at hx
          obtain ⟨y, hy, rfl⟩ := Option.map_eq_some_iff.mp hx
          have hy2 := hs4 y (List.mem_of_getElem? hy)
          have hi : i < xs.length := (List.getElem?_eq_some_iff.mp hy).1
          have ey : V.int y = V.int ((y.toNat : Nat) : Int) := by rw [Int.toNat_of_nonneg hy2.1]
          have hnl := numL_len 4 y.toNat (by omega)
          rw [ey]
          refine s_asgW (m := 6 * i + 5 + 1) (eb_cat (eb_cat (ew_var (ns := ns) rfl hf6 hb6 hn6) (eb_codes (m := 5) (ev_cb1 (ev_var rfl) (rc_strN (n := y.toNat) (by omega))) (numL_asc _) (by omega) (by omega)).w (by omega)).w (eb_ofL (m := 1) (ns := [10]) (el_lst (ea_cons ev_c ea_nil) (by decide)) (by decide) (by decide)).w (by omega)).w fun f7 H7 ms e7 h7 b7 n7 => ⟨f7, ms, _, rfl, e6.trans e7, e7 _ _ hl6, h7, b7, by omega⟩
        · obtain ⟨f6, ns, x5, rfl, e6, hl6, hf6, hb6, hn6⟩ := p6
          rw [hlx, hn4] at hn6
          refine q_asgW (m := 84 + 511) (eb_filled (m := 84) (ew_var (ns := ns) rfl hf6 hb6 (by omega)) (by decide)).w fun f7 H7 ms e7 h7 b7 n7 => ?_
          have e07 := e6.trans e7
          refine q_forL (five rfl e07) (sq_of (e07 _ _ hqa)) (fun i σ' H' => ∃ (f : Addr) (ns : List Int) (x2 x3 : Option V), σ' = [some (.ref p), some (.ref l4), x2, x3, some (.ref f), x5] ∧ Ex H H' ∧ H' f = some (.lst (ns.map V.int)) ∧ (∀ x ∈ ns, inByte x) ∧ ns.length ≤ 595 + 300 * i) (fun H8 e8 => ⟨f7, ms, _, _, rfl, e07.trans e8, e8 _ _ h7, b7, by omega⟩) (fun i σ' H' _ p8 => ?_) (fun i x σ' H' hx p8 => ?_) fun σ' H' p8 => ?_
          · obtain ⟨_, _, _, _, _, e, _⟩ := p8
            exact sq_of (e _ _ hqa)
          · obtain ⟨f8, ns8, y2, y3, rfl, e8, h8, b8, n8⟩ := p8
            obtain ⟨a, bb, pr, ns2, rfl, g1, g2, g3, g4, g5, g6⟩ := elem hx
            have hi : i < as.length := by
              have := (List.getElem?_eq_some_iff.mp hx).1
              omega
            refine ⟨a, _, rfl, st_of (e8 _ _ g1), rfl, _, _, rfl, _, _, rfl, rfl, ?_⟩
            exact s_asgW (m := 595 + 300 * i + 300) (eb_cat (ew_var (ns := ns8) rfl h8 b8 n8) (ew_var (ns := ns2) rfl (e8 _ _ g4) g5 g6) (by omega)).w fun f9 H9 ms9 e9 h9 b9 n9 => ⟨f9, ms9, _, _, rfl, e8.trans e9, h9, b9, by omega⟩
          · obtain ⟨f8, ns8, y2, y3, rfl, e8, h8, b8, n8⟩ := p8
            rw [hlen] at n8
            exact s_ret (ev_var rfl) fun H9 e9 => q f8 H9 ns8 (e8.trans e9) (e9 _ _ h8) b8 (by omega)
end
end Tar

/-! TaQ10 -/
set_option Elab.async false
set_option linter.all false
set_option maxRecDepth 100000
set_option maxHeartbeats 400000
/-! the law's own writer, 4: members, archives -/
namespace Tar
open PySem PySem.Spec PyProof.Rows L2 Evl
/-- the letters of the kinds, as the law writes them -/
def kKD : List (Key × V) := [(.inr "file", .str "0"), (.inr "sparse", .str "S"), (.inr "directory", .str "5"), (.inr "symlink", .str "2"), (.inr "link", .str "1")]
def kKDt : List (TE × TE) := [(tC (.str "file"), tC (.str "0")), (tC (.str "sparse"), tC (.str "S")), (tC (.str "directory"), tC (.str "5")), (tC (.str "symlink"), tC (.str "2")), (tC (.str "link"), tC (.str "1"))]
theorem er_kinds {σ : L2.St} {H : Hp} : Er (tDisp kKDt) σ H (fun v H1 => ∃ p, v = .ref p ∧ H p = none ∧ H1 p = some (.dK kKD)) := fun H1 e Q q p hp => ⟨upd_same, kKD, rfl, by decide, q _ _ (fun a o ha => by
  rw [upd_ne (ne_of_none ha hp), upd_ne (ne_of_none ha hp)]
  exact ha) ⟨p, rfl, fresh_back e hp, upd_same⟩⟩
theorem mbR_old {v : V} {av : Addr → Prop} {H H' : Hp} (e : Ex H H') (h : MbR av v H) : MbR No v H' := mbR_av.ex (exA_of e) (mbR_av.mono (fun a h => False.elim h) h)
section
variable {P : Program} {w : World} {K : PySem.W.Frag} {mg : Str → Option Value} {base : Heap}
theorem ew_stored {σ : L2.St} {H : Hp} {te : TE} {v : V} (h : Ev te σ H v) (hm : MbR No v H) : EvW (tCall spLStored [] C8.E0 (tCons te tNil)) σ H 2500 := fun H1 e Q q => h H1 e _ fun H2 e2 => ⟨v, rfl, mbR_old (e.trans e2) hm, fun p H3 ns e3 h3 hb hl => q p H3 ns (e2.trans e3) h3 hb hl⟩
theorem eb_long {σ : L2.St} {H : Hp} {t1 t2 : TE} {k t : List Nat} (h1 : Ev t1 σ H (.str (SX.S k))) (h2 : Ev t2 σ H (.str (SX.S t))) (hk : asc k) (ht : asc t) (lk : k.length ≤ 10) (lt : t.length ≤ 300) : EvB (tCall spLong [] C8.E0 (tCons t1 (tCons t2 tNil))) σ H 1500 := eb_call (ea_cons h1 (ea_cons h2 ea_nil)) fun H1 e Q E q => ⟨k, t, rfl, hk, ht, lk, lt, q⟩
def spLBytes : Sp := fun vs H Q _ => ∃ v : V, vs = [v] ∧ MbR No v H ∧ NewB 7000 H Q
theorem asc1 {c : Nat} (h : c < 128) : asc [c] := fun d hd => by rw [List.mem_singleton.mp hd]; exact h
theorem sc__law_bytes : FnScope ["_law_one", "_law_target", "_law_numbers", "_law_kind", "_law_own"] ["_law_one"] (defScope (topS 103)) := ⟨rfl, rfl, rfl, by decide +kernel, rfl, by decide +kernel, by decide +kernel⟩
theorem ok__law_bytes (g : GF K mg) (D : D0 K mg "_law_bytes" (topS 103)) (c_law_long : C8.Cal P w K mg base 3 "_law_long" (spLong) []) (c_law_filled : C8.Cal P w K mg base 1 "_law_filled" (spFilled) []) (c_law_head : C8.Cal P w K mg base 2 "_law_head" (spHead K) []) (c_law_stored : C8.Cal P w K mg base 2 "_law_stored" (spLStored) [])  : C8.Cal P w K mg base 4 "_law_bytes" (spLBytes) [] := by
  refine calD D (fun _ _ _ _ _ _ us hl => match us, hl with | [_], _ => rfl) sc__law_bytes (fun vs H Q E h => by obtain ⟨v, rfl, hv, q⟩ := h; rfl) fun f cdv A outer s H vs Q E hr h => ?_
  have hu := hr.units
  have hu1 := hu_of hr
  obtain ⟨v, rfl, hv, q⟩ := h
  refine ⟨_, pss_cons (ps_set (i := 1) sc__law_bytes.nd rfl (Or.inl rfl) (pe_ifExp (pt_cmpR (op_inX (K := K)) (pe_ix (ix_X (K := K)) (pv 0) (pe_int) (fun _ _ => rfl)) (pe_tup (pa_cons (pe_str) (pa_cons (pe_str) (pa_nil)))) (by with_unfolding_all rfl)) (pe_ix (ix_X (K := K)) (pv 0) (pe_int) (fun _ _ => rfl)) (pe_str)))
      (pss_cons (ps_set (i := 2) sc__law_bytes.nd rfl (Or.inl rfl) (C8.pe_c c_law_stored hr (by decide) rfl (pa_cons (pv 0) (pa_nil))))
      (pss_cons (ps_set (i := 3) sc__law_bytes.nd rfl (Or.inl rfl) (pe_dget hu1 (pe_disp (pps_cons (pe_str) (pe_str) (pps_cons (pe_str) (pe_str) (pps_cons (pe_str) (pe_str) (pps_cons (pe_str) (pe_str) (pps_cons (pe_str) (pe_str) (pps_nil)))))) rfl rfl (by intro h; cases h) (by decide)) (pe_ix (ix_X (K := K)) (pv 0) (pe_int) (fun _ _ => rfl)) (fun _ _ => rfl)))
      (pss_cons (ps_set (i := 4) sc__law_bytes.nd rfl (Or.inl rfl) (C8.pe_c c_law_head hr (by decide) rfl (pa_cons (pv 3) (pa_cons (pe_ix (ix_X (K := K)) (pv 0) (pe_int) (fun _ _ => rfl)) (pa_cons (pe_tup (pa_cons (pe_ix (ix_X (K := K)) (pv 0) (pe_int) (fun _ _ => rfl)) (pa_cons (pe_callB (cr_lenX (K := K)) rfl g.n_len bo_len (pa_cons (pv 2) (pa_nil))) (pa_cons (pe_ix (ix_X (K := K)) (pv 0) (pe_int) (fun _ _ => rfl)) (pa_nil))))) (pa_cons (pv 1) (pa_nil)))))))
      (pss_one (ps_ret (pe_op op_addX (pe_op op_addX (pe_op op_addX (C8.pe_c c_law_long hr (by decide) rfl (pa_cons (pe_str) (pa_cons (pv 1) (pa_nil)))) (C8.pe_c c_law_long hr (by decide) rfl (pa_cons (pe_str) (pa_cons (pe_ix (ix_X (K := K)) (pv 0) (pe_int) (fun _ _ => rfl)) (pa_nil))))) (pv 4)) (C8.pe_c c_law_filled hr (by decide) rfl (pa_cons (pv 2) (pa_nil))))))))), ?_⟩
  have hv0 := hv
  obtain ⟨p, k, nm, b, t, rest, rfl, _, hp, hnm, b0, b1, t0, t1, hr⟩ := hv
  obtain ⟨nn, rfl, hn1, hn2⟩ := hnm
  have hix : ∀ {σ : L2.St} {H1 : Hp} (j : Nat) {z : Int} {v : V}, z = (j : Int) → σ[0]? = some (some (.ref p)) → Ex H H1 → (.str k :: .str (SX.S nn) :: .int b :: .int t :: rest)[j]? = some v → Ev (tOp (rIx K) (tVar 0) (tC (.int z))) σ H1 v := fun {σ H1} j {z v} hz h e hv => by
    subst hz
    exact ev_ixL (ev_var h) ev_c (sq_of (e _ _ hp)) (atI_nat hv)
  refine q_asgR (R := TxtR 264) (er_if (ev_inTup (x := .str k) (hix 0 rfl rfl (Ex.refl _) rfl) (eu_tup (ea_cons ev_c (ea_cons ev_c ea_nil)) (by decide)) rfl rfl |> et_test) (fun hb => ?_) fun hb => Er.of ev_c fun _ _ => ⟨[], rfl, fun c hc => (by cases hc), by decide⟩) fun tg H1 e1 htg => ?_
  · have hk : k = "symlink" ∨ k = "link" := by
      rcases hr with ⟨h, _⟩ | ⟨h, _⟩ | ⟨h, _⟩ | ⟨h, _⟩
      · rw [h] at hb; exact absurd hb (by decide)
      · rw [h] at hb; exact absurd hb (by decide)
      · rw [h] at hb; exact absurd hb (by decide)
      · exact h
    rcases hr with ⟨h, _⟩ | ⟨h, _⟩ | ⟨h, _⟩ | ⟨_, u, rfl, hu⟩
    · rw [h] at hk; exact absurd hk (by decide)
    · rw [h] at hk; exact absurd hk (by decide)
    · rw [h] at hk; exact absurd hk (by decide)
    · exact Er.of (hix 4 rfl rfl (Ex.refl _) rfl) fun _ _ => hu
  · obtain ⟨tt, rfl, ht1, ht2⟩ := htg
    refine q_asgW (ew_stored (ev_var rfl) (mbR_old e1 hv0)) fun s2 H2 ns e2 h2 hb2 hl2 => ?_
    have e02 := e1.trans e2
    have hkd : ∃ c : Nat, valV kKD (.inr k) = some (.str (SX.S [c])) ∧ c < 128 := by
      rcases hr with ⟨h, _⟩ | ⟨h, _⟩ | ⟨h, _⟩ | ⟨h, _⟩
      · exact ⟨48, by rw [h]; rfl, by decide⟩
      · exact ⟨83, by rw [h]; rfl, by decide⟩
      · exact ⟨53, by rw [h]; rfl, by decide⟩
      · rcases h with h | h
        · exact ⟨50, by rw [h]; rfl, by decide⟩
        · exact ⟨49, by rw [h]; rfl, by decide⟩
    obtain ⟨c, hc, hc2⟩ := hkd
    refine q_asg (v := .str (SX.S [c])) (ev_dgetR (R := fun _ _ => True) (k := .inr k) er_kinds (fun H3 e3 => hix 0 rfl rfl (e02.trans e3) rfl) hc) fun H3 e3 => ?_
    have e03 := e02.trans e3
    have hln : (ns.map V.int).length = ns.length := List.length_map _
    refine q_asgW (m := 600) (eb_head (K := K) (k := [c]) (n := nn) (g := tt) (a := b) (b := (ns.length : Int)) (c := t) (ev_var rfl) (hix 1 rfl rfl e03 rfl) (eu_tup (ea_cons (hix 2 rfl rfl e03 rfl) (ea_cons (ev_is (ev_cb1 (ev_var rfl) (rc_lenL (sq_of (e3 _ _ h2)))) (by rw [hln])) (ea_cons (hix 3 rfl rfl e03 rfl) ea_nil))) (show (3 : Nat) ≤ 100000 by decide)) (ev_var rfl) (asc1 hc2) hn1 ht1 (show (1 : Nat) ≤ 10 by decide) (by omega) (by omega)).w fun p4 H4 ns4 e4 h4 hb4 hl4 => ?_
    have e04 := e03.trans e4
    exact s_retNew q rfl e04 (EvB.le (eb_cat (eb_cat (eb_cat (eb_long (k := [75]) (t := tt) (ev_lit rfl) (ev_var rfl) (asc1 (by decide)) ht1 (by decide) (by omega)).w (eb_long (k := [76]) (t := nn) (ev_lit rfl) (hix 1 rfl rfl e04 rfl) (asc1 (by decide)) hn1 (by decide) (by omega)).w (by decide)).w (ew_var (ns := ns4) rfl h4 hb4 hl4) (by decide)).w (eb_filled (m := 2500) (ew_var (ns := ns) rfl ((e3.trans e4) _ _ h2) hb2 hl2) (by decide)).w (by decide)) (by decide))
def NewA (H : Hp) (Q : VK) : Prop := ∀ p H' (ns : List Int), H p = none → Ex H H' → H' p = some (.lst (ns.map V.int)) → (∀ x ∈ ns, inByte x) → ns.length ≤ 29100 → 1024 ≤ ns.length → Q (.ref p) H'
def spLArchive : Sp := fun vs H Q _ => ∃ (a : Addr) (xs : List V), vs = [.ref a] ∧ H a = some (.lst xs) ∧ xs.length ≤ 4 ∧ (∀ x ∈ xs, MbR No x H) ∧ NewA H Q
theorem sc__law_archive : FnScope ["_law_some", "_law_found", "_law_one"] ["_law_some"] (defScope (topS 104)) := ⟨rfl, rfl, rfl, by decide +kernel, rfl, by decide +kernel, by decide +kernel⟩
theorem ok__law_archive (g : GF K mg) (D : D0 K mg "_law_archive" (topS 104)) (c_law_bytes : C8.Cal P w K mg base 4 "_law_bytes" (spLBytes) [])  : C8.Cal P w K mg base 5 "_law_archive" (spLArchive) [] := by
  refine calD D (fun _ _ _ _ _ _ us hl => match us, hl with | [_], _ => rfl) sc__law_archive (fun vs H Q E h => by obtain ⟨a, xs, rfl, ha, hl, hm, q⟩ := h; rfl) fun f cdv A outer s H vs Q E hr h => ?_
  have hu := hr.units
  have hu1 := hu_of hr
  obtain ⟨a, xs, rfl, ha, hl, hm, q⟩ := h
  refine ⟨_, pss_cons (ps_set (i := 1) sc__law_archive.nd rfl (Or.inl rfl) (pe_lst (pa_nil)))
      (pss_cons (ps_for PassesOwn.never rfl (pi_listK (K := K) (pv 0)) (pg_name (i := 2) sc__law_archive.nd rfl (Or.inl rfl))
      (pss_one (ps_set (i := 1) sc__law_archive.nd rfl (Or.inl rfl) (pe_op op_addX (pv 1) (C8.pe_c c_law_bytes hr (by decide) rfl (pa_cons (pv 2) (pa_nil)))))))
      (pss_one (ps_ret (pe_op op_addX (pv 1) (pe_op op_mulX (pe_lst (pa_cons (pe_int) (pa_nil))) (pe_int)))))), ?_⟩
  refine q_asgL (xs := []) (el_lst ea_nil (by decide)) fun f0 H1 hf0 e1 h1 => ?_
  refine q_forLn (ev_var rfl) (sq_of (e1 _ _ ha)) (fun i σ' H' => ∃ (f : Addr) (ns : List Int) (x2 : Option V), σ' = [some (.ref a), some (.ref f), x2] ∧ Ex H H' ∧ H' f = some (.lst (ns.map V.int)) ∧ (∀ x ∈ ns, inByte x) ∧ ns.length ≤ 7000 * i) (fun H2 e2 => ⟨f0, [], _, rfl, e1.trans e2, e2 _ _ h1, fun x hx => (by cases hx), Nat.le_refl _⟩) (fun i σ' H' _ p => ?_) (fun i x σ' H' hx p => ?_) fun σ' H' p => ?_
  · obtain ⟨_, _, _, _, e, _⟩ := p
    exact sq_of (e _ _ ha)
  · obtain ⟨f, ns, x2, rfl, e2, h2, hb2, hl2⟩ := p
    have hi : i < xs.length := (List.getElem?_eq_some_iff.mp hx).1
    have hxm := hm x (List.mem_of_getElem? hx)
    exact s_asgW (m := 7000 * i + 7000) (eb_cat (ew_var (ns := ns) rfl h2 hb2 hl2) (eb_call (sp := spLBytes) (m := 7000) (ea_cons (ev_var rfl) ea_nil) fun H3 e3 Q E q => ⟨x, rfl, mbR_old (e2.trans e3) hxm, q⟩).w (by omega)).w fun f3 H3 ms e3 h3 hb3 hl3 => ⟨f3, ms, _, rfl, e2.trans e3, h3, hb3, by omega⟩
  · obtain ⟨f, ns, x2, rfl, e2, h2, hb2, hl2⟩ := p
    have hlz : (ns.map V.int).length = ns.length := List.length_map _
    have g := el_repL (σ := [some (.ref a), some (.ref f), x2]) (H := H') (ta := tLst (tCons (tC (.int 0)) tNil)) (tb := tC (.int 1024)) (xs := [.int 0]) (m := 1024) (el_lst (ea_cons ev_c ea_nil) (by simp)) ev_c (by decide) (by decide)
    rw [rep_one, show (1024 : Int).toNat = 1024 from rfl] at g
    have g2 := el_catV (ta := tVar 1) (ev_var rfl) h2 g (by rw [hlz, List.length_replicate]; omega)
    have e0 : ns.map V.int ++ List.replicate 1024 (V.int 0) = (ns ++ List.replicate 1024 0).map V.int := by rw [List.map_append, List.map_replicate]
    rw [e0] at g2
    exact g2 H' (Ex.refl _) Q fun p3 H3 hp3 e3 h3 => q p3 H3 _ (fresh_back e2 hp3) (e2.trans e3) h3 (fun x hx => by
      rcases List.mem_append.mp hx with z | z
      · exact hb2 x z
      · rw [List.eq_of_mem_replicate z]
        exact ⟨by decide, by decide⟩) (by rw [List.length_append, List.length_replicate]; omega) (by rw [List.length_append, List.length_replicate]; omega)
end
end Tar

/-! TaQ11 -/
set_option Elab.async false
set_option linter.all false
set_option maxRecDepth 100000
set_option maxHeartbeats 400000
/-! the drawing defs, 7: damaged archives -/
namespace Tar
open PySem PySem.Spec PyProof.Rows L2 Evl
/-- a list of bytes' numbers, from lo to m many -/
def IntL (lo m : Nat) : List V → Hp → Prop := fun vs _ => ∃ ns : List Int, vs = ns.map V.int ∧ (∀ x ∈ ns, inByte x) ∧ lo ≤ ns.length ∧ ns.length ≤ m
theorem intL_sta (sa : Addr) (lo m : Nat) : StA sa (IntL lo m) := fun _ _ _ _ h => h
abbrev rMin2 : List V → Hp → VK → Prop := fun xs H Q => ∃ i j, xs = [.int i, .int j] ∧ Q (.int (if j < i then j else i)) H
abbrev rMaxN : List V → Hp → VK → Prop := fun xs H Q => ∃ i j, xs = [.int i, .int j] ∧ Q (.int (if j > i then j else i)) H
theorem rc_min2 {a b : Nat} {H : Hp} : RC rMin2 [.int (a : Int), .int (b : Int)] H (.int ((min a b : Nat) : Int)) := fun H1 _ Q q => ⟨a, b, rfl, by
  have e : (if (b : Int) < (a : Int) then (b : Int) else (a : Int)) = ((min a b : Nat) : Int) := by split <;> omega
  rw [e]
  exact q H1 (Ex.refl _)⟩
theorem rc_max2 {a b : Nat} {H : Hp} : RC rMaxN [.int (a : Int), .int (b : Int)] H (.int ((max a b : Nat) : Int)) := fun H1 _ Q q => ⟨a, b, rfl, by
  have e : (if (b : Int) > (a : Int) then (b : Int) else (a : Int)) = ((max a b : Nat) : Int) := by split <;> omega
  rw [e]
  exact q H1 (Ex.refl _)⟩
section
variable {K : PySem.W.Frag} {σ : L2.St} {H : Hp} {sa : Addr} {n k k1 m m1 m2 : Nat} {te ta tb t1 t2 : TE} {D : Ends} {tz : TS} {i j : Nat}
theorem ev_cb2 {r : List V → Hp → VK → Prop} {x y z : V} (h : Ev ta σ H x) (h2 : Ev tb σ H y) (hr : RC r [x, y] H z) : Ev (tCB r (tCons ta (tCons tb tNil))) σ H z := ev_cb (ea_cons h (ea_cons h2 ea_nil)) hr
theorem eb_from {a : Nat} {tn : TE} (h : EvW te σ H m) (hn : Ev tn σ H (.int (a : Int))) : EvB (tSl (rSlX K) te (tPart tn) tNoPart) σ H (m - a) := eb_slice h (eo_n hn) eo_none (fun xs hx => by
  unfold cutV
  rw [HT.sIx_nat, List.length_take, List.length_drop]
  show min (xs.length - _) _ ≤ _
  omega) fun ns => cutV_map ns _ _
theorem eb_mid {a b : Nat} {tn tp : TE} (h : EvW te σ H m) (hn : Ev tn σ H (.int (a : Int))) (hp : Ev tp σ H (.int (b : Int))) : EvB (tSl (rSlX K) te (tPart tn) (tPart tp)) σ H (b - a) := eb_slice h (eo_n hn) (eo_n hp) (fun xs hx => by
  unfold cutV
  rw [HT.sIx_nat, HT.sIx_nat, List.length_take, List.length_drop]
  omega) fun ns => cutV_map ns _ _
theorem es_ofB (s : SrcOk sa n H) (h : EvB te σ H m) : Es te σ sa n H 0 (LstR sa (IntL 0 m)) := fun Q q => h H (Ex.refl _) Q fun p H2 ns hp e h2 hb hl => q _ H2 (ExB.of e) (s.ex e) ⟨p, _, rfl, s.ne hp, h2, ns, rfl, hb, Nat.zero_le _, hl⟩
theorem es_catI {lo lo2 : Nat} (h : Es ta σ sa n H k (LstR sa (IntL lo m1))) (h2 : ∀ H1, ExB sa H H1 → SrcOk sa (n + k) H1 → Es tb σ sa (n + k) H1 k1 (LstR sa (IntL lo2 m2))) (s : SrcOk sa n H) (hz : m1 + m2 ≤ 100000) : Es (tOp rAddX ta tb) σ sa n H (k + k1) (LstR sa (IntL (lo + lo2) (m1 + m2))) := by
  refine (es_catL h (intL_sta _ _ _) (intL_sta _ _ _) (fun vs H1 ⟨ns, e, _, _, hl⟩ => by rw [e, List.length_map]; omega) (fun vs H1 ⟨ns, e, _, _, hl⟩ => by rw [e, List.length_map]; omega) h2).imp fun v H1 e1 hv => ?_
  obtain ⟨p, xs, rfl, hp, h3, x, y, rfl, ⟨ns, rfl, hb1, hl1, hl2⟩, ⟨ms, rfl, hb2, hl3, hl4⟩⟩ := hv
  refine ⟨p, _, rfl, fun e => hp (by rw [e]; exact old_src s), h3, ns ++ ms, by rw [List.map_append], fun x hx => ?_, by rw [List.length_append]; omega, by rw [List.length_append]; omega⟩
  rcases List.mem_append.mp hx with z | z
  · exact hb1 x z
  · exact hb2 x z
theorem q_parB (h1 : EvB t1 σ H m1) (h2 : EvB t2 σ H m2) (k : ∀ p q H1 (ns ms : List Int), Ex H H1 → H1 p = some (.lst (ns.map V.int)) → (∀ x ∈ ns, inByte x) → ns.length ≤ m1 → H1 q = some (.lst (ms.map V.int)) → (∀ x ∈ ms, inByte x) → ms.length ≤ m2 → tz D ((σ.set i (some (.ref p))).set j (some (.ref q))) H1) : tSeq (tPar i j (tCons t1 (tCons t2 tNil))) tz D σ H :=
  h1 H (Ex.refl _) _ fun p H1 ns hp e1 g1 b1 l1 => h2 H1 e1 _ fun q H2 ms hq e2 g2 b2 l2 => ⟨_, _, rfl, k p q H2 ns ms (e1.trans e2) (e2 _ _ g1) b1 l1 g2 b2 l2⟩
/-- a number of turns, as Nat -/
theorem natR {a b : Int} {v : V} {H : Hp} (h : IntR a b v H) (h0 : 0 ≤ a) : ∃ r : Nat, v = .int (r : Int) ∧ a ≤ (r : Int) ∧ (r : Int) ≤ b := by
  obtain ⟨r, rfl, r0, r1⟩ := h
  exact ⟨r.toNat, by rw [Int.toNat_of_nonneg (by omega)], by omega, by omega⟩
theorem es_mul512 {M : Int} (hM : M ≤ 1000) (h : Es tb σ sa n H k (IntR 0 M)) : Es (tOp rMulX (tC (.int 512)) tb) σ sa n H k (IntR 0 (512 * M)) := fun Q q =>
  h _ fun v H1 e s ⟨r, ev, r0, r1⟩ => .inl ⟨512, r, rfl, ev, wide_mul (a := 20) (b := 20) (by decide) (by omega) (by decide) (by decide) (by decide), q _ H1 e s ⟨512 * r, rfl, by omega, by omega⟩⟩
end
section
variable {P : Program} {w : World} {K : PySem.W.Frag} {mg : Str → Option Value} {base : Heap}
def spRData : Sp := fun vs H Q _ => ∃ (sa : Addr) (n : Nat), vs = [.ref sa] ∧ SrcOk sa n H ∧ n ≤ 500000 ∧ ∀ p H' (ns : List Int), ExB sa H H' → SrcOk sa (n + 420) H' → H' p = some (.lst (ns.map V.int)) → (∀ x ∈ ns, inByte x) → ns.length ≤ 40000 → Q (.ref p) H'
theorem sc__law_random_data : FnScope ["_law_source_here", "_law_numbers", "_law_many", "_law_way", "_law_one", "_law_other", "_law_low", "_law_high", "_law_piece", "_law_behind", "_law_turn", "_law_spot"] ["_law_source_here"] (defScope (topS 105)) := ⟨rfl, rfl, rfl, by decide +kernel, rfl, by decide +kernel, by decide +kernel⟩
theorem ok__law_random_data (g : GF K mg) (D : D0 K mg "_law_random_data" (topS 105)) (c_law_draw : C8.Cal P w K mg base 1 "_law_draw" (spDraw) []) (c_law_archive : C8.Cal P w K mg base 5 "_law_archive" (spLArchive) []) (c_law_random_list : C8.Cal P w K mg base 5 "_law_random_list" (spRList) [])  : C8.Cal P w K mg base 6 "_law_random_data" (spRData) [] := by
  refine calD D (fun _ _ _ _ _ _ us hl => match us, hl with | [_], _ => rfl) sc__law_random_data (fun vs H Q E h => by obtain ⟨sa, n, rfl, hs, hn, q⟩ := h; rfl) fun f cdv A outer s H vs Q E hr h => ?_
  have hu := hr.units
  have hu1 := hu_of hr
  obtain ⟨sa, n, rfl, hs, hn, q⟩ := h
  refine ⟨_, pss_cons (ps_set (i := 1) sc__law_random_data.nd rfl (Or.inl rfl) (C8.pe_c c_law_archive hr (by decide) rfl (pa_cons (C8.pe_c c_law_random_list hr (by decide) rfl (pa_cons (pv 0) (pa_cons (pe_int) (pa_nil)))) (pa_nil))))
      (pss_cons (ps_set (i := 2) sc__law_random_data.nd rfl (Or.inl rfl) (pe_op op_divX (pe_callB (cr_lenX (K := K)) rfl g.n_len bo_len (pa_cons (pv 1) (pa_nil))) (pe_int)))
      (pss_cons (ps_set (i := 3) sc__law_random_data.nd rfl (Or.inl rfl) (C8.pe_c c_law_draw hr (by decide) rfl (pa_cons (pv 0) (pa_cons (pe_int) (pa_nil)))))
      (pss_cons (ps_set (i := 4) sc__law_random_data.nd rfl (Or.inl rfl) (pe_op op_mulX (pe_int) (C8.pe_c c_law_draw hr (by decide) rfl (pa_cons (pv 0) (pa_cons (pv 2) (pa_nil))))))
      (pss_cons (ps_set (i := 5) sc__law_random_data.nd rfl (Or.inl rfl) (pe_op op_mulX (pe_int) (C8.pe_c c_law_draw hr (by decide) rfl (pa_cons (pv 0) (pa_cons (pv 2) (pa_nil))))))
      (pss_cons (ps_if (pt_cmpR (op_eqX (K := K) hu) (pv 3) (pe_int) (nomark _)) (pss_one (ps_ret (pe_op op_addX (pe_op op_addX (pe_slice (sl_X (K := K)) (pv 1) (po_none) (po_some (pv 4))) (pe_slice (sl_X (K := K)) (pv 1) (po_some (pv 5)) (po_some (pe_op op_addX (pv 5) (pe_int))))) (pe_slice (sl_X (K := K)) (pv 1) (po_some (pv 4)) (po_none))))) (pss_nil))
      (pss_cons (ps_if (pt_cmpR (op_eqX (K := K) hu) (pv 3) (pe_int) (nomark _)) (pss_one (ps_ret (pe_op op_addX (pe_slice (sl_X (K := K)) (pv 1) (po_none) (po_some (pv 4))) (pe_slice (sl_X (K := K)) (pv 1) (po_some (pe_op op_addX (pv 4) (pe_int))) (po_none))))) (pss_nil))
      (pss_cons (ps_if (pt_cmpR (op_eqX (K := K) hu) (pv 3) (pe_int) (nomark _)) (pss_cons (ps_par (i := 6) (j := 7) rfl sc__law_random_data.nd rfl rfl (by decide) rfl rfl (pa_cons (pe_callB (call_min2 rfl) rfl g.n_min bo_min (pa_cons (pv 4) (pa_cons (pv 5) (pa_nil)))) (pa_cons (pe_callB (call_max2 rfl) rfl g.n_max bo_max (pa_cons (pv 4) (pa_cons (pv 5) (pa_nil)))) (pa_nil))) rfl)
      (pss_cons (ps_par (i := 8) (j := 9) rfl sc__law_random_data.nd rfl rfl (by decide) rfl rfl (pa_cons (pe_slice (sl_X (K := K)) (pv 1) (po_some (pv 6)) (po_some (pe_op op_addX (pv 6) (pe_int)))) (pa_cons (pe_slice (sl_X (K := K)) (pv 1) (po_some (pe_op op_addX (pv 7) (pe_int))) (po_none)) (pa_nil))) rfl)
      (pss_cons (ps_if (pt_cmpR op_lt (pv 6) (pv 7) (nomark _)) (pss_one (ps_set (i := 8) sc__law_random_data.nd rfl (Or.inl rfl) (pe_op op_addX (pe_op op_addX (pe_slice (sl_X (K := K)) (pv 1) (po_some (pv 7)) (po_some (pe_op op_addX (pv 7) (pe_int)))) (pe_slice (sl_X (K := K)) (pv 1) (po_some (pe_op op_addX (pv 6) (pe_int))) (po_some (pv 7)))) (pv 8)))) (pss_nil))
      (pss_one (ps_ret (pe_op op_addX (pe_op op_addX (pe_slice (sl_X (K := K)) (pv 1) (po_none) (po_some (pv 6))) (pv 8)) (pv 9))))))) (pss_nil))
      (pss_cons (ps_for PassesOwn.never rfl (pi_range1 rfl g.n_range (pa_cons (C8.pe_c c_law_draw hr (by decide) rfl (pa_cons (pv 0) (pa_cons (pe_int) (pa_nil)))) pa_nil)) (pg_name (i := 10) sc__law_random_data.nd rfl (Or.inl rfl))
      (pss_cons (ps_set (i := 11) sc__law_random_data.nd rfl (Or.inl rfl) (C8.pe_c c_law_draw hr (by decide) rfl (pa_cons (pv 0) (pa_cons (pe_callB (cr_lenX (K := K)) rfl g.n_len bo_len (pa_cons (pv 1) (pa_nil))) (pa_nil)))))
      (pss_one (ps_set (i := 1) sc__law_random_data.nd rfl (Or.inl rfl) (pe_op op_addX (pe_op op_addX (pe_slice (sl_X (K := K)) (pv 1) (po_none) (po_some (pv 11))) (pe_lst (pa_cons (C8.pe_c c_law_draw hr (by decide) rfl (pa_cons (pv 0) (pa_cons (pe_int) (pa_nil)))) (pa_nil)))) (pe_slice (sl_X (K := K)) (pv 1) (po_some (pe_op op_addX (pv 11) (pe_int))) (po_none)))))))
      (pss_one (ps_ret (pv 1))))))))))), ?_⟩
  refine q_asgS (sa := sa) (n := n) (k := 401) (R := LstR sa (IntL 1024 29100)) (fun Q' q' => ?_) fun v H1 e1 s1 hv => ?_
  · refine ev_var (i := 0) (v := .ref sa) rfl H (Ex.refl _) (fun v H1 => spRList [v, .int 4] H1 (fun u H2 => spLArchive [u] H2 Q' C8.E0) C8.E0) fun H2 e2 => ⟨sa, n, rfl, hs.ex e2, by omega, fun u H3 e3 s3 hu => ?_⟩
    obtain ⟨a, xs, rfl, _, h3, hl, hx⟩ := hu
    exact ⟨a, xs, rfl, h3, hl, fun x hx2 => mbR_old (Ex.refl _) (hx x hx2), fun p H4 ns hp e4 h4 hb hl2 hl3 => q' _ H4 (((ExB.of e2).trans e3).trans (ExB.of e4)) (s3.ex e4) ⟨p, _, rfl, s3.ne hp, h4, ns, rfl, hb, hl3, hl2⟩⟩
  obtain ⟨p1, xs, rfl, hp1, h1, ns, rfl, hb, hl0, hl1⟩ := hv
  have hlen : (ns.map V.int).length = ns.length := List.length_map _
  obtain ⟨m, hm⟩ : ∃ m : Nat, ns.length / 512 = m := ⟨_, rfl⟩
  have hmI : (ns.length : Int) / 512 = (m : Int) := by omega
  have hdiv : CDivW (ns.length : Int) 512 := wide_div (b := 10) (by decide) (by decide) (by decide) (by decide)
  refine q_asg (v := .int (m : Int)) (ev_is (ev_op (ev_cb1 (ev_var rfl) (rc_lenL (sq_of h1))) ev_c (rv_divI (by rw [hlen]; exact hdiv))) (by rw [hlen, hmI])) fun H2 e2 => ?_
  refine q_asgS (k := 1) (R := IntR 0 5) (es_draw (m := 6) rfl (s1.ex e2) (by omega) (by decide) (by decide)) fun v H3 e3 s3 hv => ?_
  obtain ⟨wy, rfl, w0, w1⟩ := hv
  refine q_asgS (k := 1) (es_mul512 (M := (m : Int) - 1) (by omega) (es_drawE (k := 0) (M := (m : Int)) rfl s3 (by omega) (by omega) fun H4 e4 s4 => es_var s4 rfl fun _ _ => ⟨(m : Int), rfl, by omega, by omega⟩)) fun v H4 e4 s4 hv => ?_
  obtain ⟨o, rfl, o0, o1⟩ := natR hv (by decide)
  refine q_asgS (k := 1) (es_mul512 (M := (m : Int) - 1) (by omega) (es_drawE (k := 0) (M := (m : Int)) rfl s4 (by omega) (by omega) fun H4 e4 s4 => es_var s4 rfl fun _ _ => ⟨(m : Int), rfl, by omega, by omega⟩)) fun v H5 e5 s5 hv => ?_
  obtain ⟨r, rfl, r0, r1⟩ := natR hv (by decide)
  have e25 := (ExB.of e2).trans (e3.trans (e4.trans e5))
  have e05 := e1.trans e25
  have h5 := e25 _ _ hp1 h1
  have iN : ∀ {x y : Int}, x = y → V.int x = V.int y := fun h => congrArg V.int h
  have numW : ∀ {σ : L2.St} {H6 : Hp}, σ[1]? = some (some (.ref p1)) → Ex H5 H6 → EvW (tVar 1) σ H6 ns.length := fun {σ H6} hi e => ew_var hi (e _ _ h5) hb (Nat.le_refl _)
  have fin : ∀ {te : TE} {σ : L2.St} {H6 : Hp} {D : Ends} {mm : Nat}, D.rt = Q → Ex H5 H6 → EvB te σ H6 mm → mm ≤ 40000 → tRet te D σ H6 := fun {te σ H6 D mm} hD e6 h hmm => h H6 (Ex.refl _) D.rt fun p H7 ms hp e7 h7 hb7 hl7 => by
    rw [hD]
    exact q p H7 ms (e05.trans (ExB.of (e6.trans e7))) ((s5.ex (e6.trans e7)).mono (by omega)) h7 hb7 (by omega)
  refine q_when (et_test (ev_op (ev_var rfl) ev_c rv_eqI)) (fun _ H6 e6 => ?_) fun _ H6 e6 => ?_
  · exact fin rfl e6 (eb_cat (eb_cat (eb_to (numW rfl e6) (ev_var rfl)).w (eb_mid (a := r) (b := r + 512) (numW rfl e6) (ev_var rfl) (ev_is (ev_op (ev_var rfl) ev_c rv_addI) (iN (by omega)))).w (by omega)).w (eb_from (a := o) (numW rfl e6) (ev_var rfl)).w (by omega)) (by omega)
  refine q_when (et_test (ev_op (ev_var rfl) ev_c rv_eqI)) (fun _ H7 e7 => ?_) fun _ H7 e7 => ?_
  · exact fin rfl (e6.trans e7) (eb_cat (eb_to (numW rfl (e6.trans e7)) (ev_var rfl)).w (eb_from (a := o + 512) (numW rfl (e6.trans e7)) (ev_is (ev_op (ev_var rfl) ev_c rv_addI) (iN (by omega)))).w (by omega)) (by omega)
  have e57 := e6.trans e7
  refine q_when (et_test (ev_op (ev_var rfl) ev_c rv_eqI)) (fun _ H8 e8 => ?_) fun _ H8 e8 => ?_
  · have e58 := e57.trans e8
    refine q_par (v := .int ((min o r : Nat) : Int)) (u := .int ((max o r : Nat) : Int)) (ea_cons (ev_cb2 (ev_var rfl) (ev_var rfl) rc_min2) (ea_cons (ev_cb2 (ev_var rfl) (ev_var rfl) rc_max2) ea_nil)) fun H9 e9 => ?_
    have e59 := e58.trans e9
    generalize hlo : min o r = lo at *
    generalize hhi : max o r = hi at *
    refine q_parB (eb_mid (a := lo) (b := lo + 512) (numW rfl e59) (ev_var rfl) (ev_is (ev_op (ev_var rfl) ev_c rv_addI) (iN (by omega)))) (eb_from (a := hi + 512) (numW rfl e59) (ev_is (ev_op (ev_var rfl) ev_c rv_addI) (iN (by omega)))) fun pp pq H10 ps qs e10 g1 g2 g3 g4 g5 g6 => ?_
    have e510 := e59.trans e10
    have last : ∀ {σ : L2.St} {H11 : Hp} {D : Ends} {p3 : Addr} {ms : List Int}, D.rt = Q → Ex H10 H11 → σ[1]? = some (some (.ref p1)) → σ[6]? = some (some (.int (lo : Int))) → σ[8]? = some (some (.ref p3)) → σ[9]? = some (some (.ref pq)) → H11 p3 = some (.lst (ms.map V.int)) → (∀ x ∈ ms, inByte x) → ms.length ≤ 512 + (hi - lo) + 512 → tRet (tOp rAddX (tOp rAddX (tSl (rSlX K) (tVar 1) tNoPart (tPart (tVar 6))) (tVar 8)) (tVar 9)) D σ H11 := fun {σ H11 D p3 ms} hD e11 h1' h6' h8' h9' k1 k2 k3 =>
      fin hD (e510.trans e11) (eb_cat (eb_cat (eb_to (numW h1' (e510.trans e11)) (ev_var h6')).w (ew_var h8' k1 k2 k3) (by omega)).w (ew_var h9' (e11 _ _ g4) g5 g6) (by omega)) (by omega)
    refine q_when (et_test (ev_op (ev_var rfl) (ev_var rfl) rv_lt)) (fun _ H11 e11 => ?_) fun _ H11 e11 => last rfl e11 rfl rfl rfl rfl (e11 _ _ g1) g2 (by omega)
    exact s_asgW (m := 512 + (hi - lo) + 512) (EvB.le (eb_cat (eb_cat (eb_mid (a := hi) (b := hi + 512) (numW rfl (e510.trans e11)) (ev_var rfl) (ev_is (ev_op (ev_var rfl) ev_c rv_addI) (iN (by omega)))).w (eb_mid (a := lo + 512) (b := hi) (numW rfl (e510.trans e11)) (ev_is (ev_op (ev_var rfl) ev_c rv_addI) (iN (by omega))) (ev_var rfl)).w (by omega)).w (ew_var (ns := ps) rfl (e11 _ _ g1) g2 g3) (by omega)) (by omega)).w fun p3 H12 ms e12 k1 k2 k3 => last rfl (e11.trans e12) rfl rfl rfl rfl k1 k2 k3
  · have e58 := e57.trans e8
    refine q_forS (n := n + 401 + 1 + 1 + 1) (k := 1) (M := 3) (es_draw (m := 4) rfl (s5.ex e58) (by omega) (by decide) (by decide)) (by decide) (fun i σ' H' => ∃ (p : Addr) (ms : List Int) (x6 x7 x8 x9 x10 x11 : Option V), σ' = [some (.ref sa), some (.ref p), some (.int (m : Int)), some (.int wy), some (.int (o : Int)), some (.int (r : Int)), x6, x7, x8, x9, x10, x11] ∧ ExB sa H H' ∧ SrcOk sa (n + 405 + 2 * i) H' ∧ p ≠ sa ∧ H' p = some (.lst (ms.map V.int)) ∧ (∀ x ∈ ms, inByte x) ∧ 1 ≤ ms.length ∧ ms.length ≤ 29100) (fun H9 e9 s9 => ⟨p1, ns, _, _, _, _, _, _, rfl, (e05.trans (ExB.of e58)).trans e9, s9, hp1, e9 _ _ hp1 (e58 _ _ h5), hb, by omega, hl1⟩) (fun i σ' H' hi p => ?_) fun i σ' H' hi p => ?_
    · obtain ⟨pn, ms, x6, x7, x8, x9, x10, x11, rfl, eH, sH, hpn, hms, hbm, hm1, hm2⟩ := p
      have hlm : (ms.map V.int).length = ms.length := List.length_map _
      refine q_asgS (k := 1) (R := IntR 0 ((ms.length : Int) - 1)) (es_drawE (k := 0) (M := (ms.length : Int)) rfl sH (by omega) (by omega) fun H9 e9 s9 => Es.ofV s9 (ev_is (ev_cb1 (ev_var rfl) (rc_lenL (sq_of (e9 _ _ hpn hms)))) (by rw [hlm])) fun _ _ => ⟨(ms.length : Int), rfl, by omega, by omega⟩) fun v H9 e9 s9 hv => ?_
      obtain ⟨z, rfl, z0, z1⟩ := natR hv (by decide)
      have hms9 := e9 _ _ hpn hms
      have nW : ∀ {σ : L2.St} {H10 : Hp}, σ[1]? = some (some (.ref pn)) → ExB sa H9 H10 → EvW (tVar 1) σ H10 ms.length := fun {σ H10} hi e => ew_var hi (e _ _ hpn hms9) hbm (Nat.le_refl _)
      refine s_asgS (k := 0 + 1 + 0) (es_catI (m1 := z + 1) (m2 := ms.length - (z + 1)) (k := 0 + 1) (k1 := 0) (lo := 0 + 1) (lo2 := 0) (es_catI (m1 := z) (m2 := 1) (k := 0) (k1 := 1) (lo := 0) (lo2 := 1) (es_ofB s9 (eb_to (nW rfl (ExB.refl _ _)) (ev_var rfl))) (fun H10 e10 s10 => (es_lst (EsA.cons (k := 1) (k1 := 0) (es_draw (m := 256) rfl s10 (by omega) (by decide) (by decide)) (intR_sts _ _ _) fun H11 e11 s11 => esa_nil s11) (fun vs H11 h => ?_) (fun _ _ _ _ h => h)).imp fun v H11 e11 hv => ?_) s9 (by omega)) (fun H10 e10 s10 => es_ofB s10 (eb_from (a := z + 1) (nW rfl e10) (ev_is (ev_op (ev_var rfl) ev_c rv_addI) (iN (by omega))))) s9 (by omega)) fun v H10 e10 s10 hv => ?_
      · obtain ⟨_, _, rfl, _, rfl⟩ := h
        exact (by decide : (1 : Nat) ≤ 100000)
      · obtain ⟨p3, xs, rfl, hp3, h3, _, _, rfl, ⟨y, rfl, y0, y1⟩, rfl⟩ := hv
        exact ⟨p3, _, rfl, hp3, h3, [y], rfl, fun x hx => by rw [List.mem_singleton.mp hx]; exact ⟨y0, by omega⟩, Nat.le_refl _, Nat.le_refl _⟩
      · obtain ⟨p3, xs, rfl, hp3, h3, qs, rfl, hbq, q1, q2⟩ := hv
        exact ⟨p3, qs, _, _, _, _, _, _, rfl, eH.trans (e9.trans e10), s10.mono (by omega), hp3, h3, hbq, by omega, by omega⟩
    · obtain ⟨pn, ms, x6, x7, x8, x9, x10, x11, rfl, eH, sH, hpn, hms, hbm, hm1, hm2⟩ := p
      exact s_ret (ev_var rfl) fun H9 e9 => q pn H9 ms (eH.trans (ExB.of e9)) ((sH.ex e9).mono (by omega)) (e9 _ _ hms) hbm (by omega)
end
end Tar

/-! TaQ12 -/
set_option Elab.async false
set_option linter.all false
set_option maxRecDepth 100000
set_option maxHeartbeats 400000
/-! the drawing defs, 8: the source made of the script -/
namespace Tar
open PySem PySem.Spec PyProof.Rows L2 Evl
abbrev rAbs : List V → Hp → VK → Prop := fun xs H Q => ∃ i, xs = [.int i] ∧ Q (.int (if i < 0 then -i else i)) H
theorem rc_abs {i : Int} {H : Hp} : RC rAbs [.int i] H (.int (if i < 0 then -i else i)) := fun H1 _ Q q => ⟨i, rfl, q H1 (Ex.refl _)⟩
section
variable {P : Program} {w : World} {K : PySem.W.Frag} {mg : Str → Option Value} {base : Heap}
def spSource (K : PySem.W.Frag) : Sp := fun vs H Q _ => ∃ (a : Addr) (ns : List Int) (i : Nat), vs = [.ref a, .int (i : Int)] ∧ SqL K H a (ns.map V.int) ∧ i ≤ 3 ∧ ns.length ≤ 63 ∧ ∀ p H', H p = none → Ex H H' → SrcOk p 0 H' → Q (.ref p) H'
theorem sc__law_source : FnScope ["_law_script", "_law_at", "_law_cell", "_law_large", "_law_mix", "_law_k"] ["_law_script", "_law_at"] (defScope (topS 87)) := ⟨rfl, rfl, rfl, by decide +kernel, rfl, by decide +kernel, by decide +kernel⟩
theorem ok__law_source (g : GF K mg) (D : D0 K mg "_law_source" (topS 87))   : C8.Cal P w K mg base 1 "_law_source" (spSource K) [] := by
  refine calD D (fun _ _ _ _ _ _ us hl => match us, hl with | [_, _], _ => rfl) sc__law_source (fun vs H Q E h => by obtain ⟨a, ns, i, rfl, ha, hi, hl, q⟩ := h; rfl) fun f cdv A outer s H vs Q E hr h => ?_
  have hu := hr.units
  have hu1 := hu_of hr
  obtain ⟨a, ns, i, rfl, ha, hi, hl, q⟩ := h
  refine ⟨_, pss_cons (ps_set (i := 2) sc__law_source.nd rfl (Or.inl rfl) (pe_ifExp (pt_cmpR op_lt (pv 1) (pe_callB (cr_lenX (K := K)) rfl g.n_len bo_len (pa_cons (pv 0) (pa_nil))) (nomark _)) (pe_ix (ix_X (K := K)) (pv 0) (pv 1) (fun _ _ => rfl)) (pe_int)))
      (pss_cons (ps_set (i := 3) sc__law_source.nd rfl (Or.inl rfl) (pe_ifExp (pt_cmpR op_ge (pe_callB call_abs rfl g.n_abs bo_abs (pa_cons (pv 2) (pa_nil))) (pe_op op_pow (pe_int) (pe_int)) (nomark _)) (pe_op op_modX (pe_callTy cr_intX rfl g.n_int bo_int (pa_cons (pe_callB call_abs rfl g.n_abs bo_abs (pa_cons (pv 2) (pa_nil))) (pa_nil))) (pe_op op_mulX (pe_op op_mulX (pe_op op_pow (pe_int) (pe_int)) (pe_op op_pow (pe_int) (pe_int))) (pe_op op_pow (pe_int) (pe_int)))) (pe_int)))
      (pss_cons (ps_set (i := 4) sc__law_source.nd rfl (Or.inl rfl) (pe_op op_modX (pe_callTy cr_intX rfl g.n_int bo_int (pa_cons (pe_op op_addX (pe_op op_addX (pv 2) (pe_op op_mulX (pe_int) (pv 1))) (pe_int)) (pa_nil))) (pe_int)))
      (pss_cons (ps_for PassesOwn.never rfl (pi_range1 rfl g.n_range (pa_cons (pe_callB (call_min2 rfl) rfl g.n_min bo_min (pa_cons (pe_callB (cr_lenX (K := K)) rfl g.n_len bo_len (pa_cons (pv 0) (pa_nil))) (pa_cons (pe_int) (pa_nil)))) pa_nil)) (pg_name (i := 5) sc__law_source.nd rfl (Or.inl rfl))
      (pss_one (ps_set (i := 4) sc__law_source.nd rfl (Or.inl rfl) (pe_op op_modX (pe_callTy cr_intX rfl g.n_int bo_int (pa_cons (pe_op op_addX (pe_op op_addX (pe_op op_pow (pv 4) (pe_int)) (pe_op op_modX (pe_callTy cr_intX rfl g.n_int bo_int (pa_cons (pe_ix (ix_X (K := K)) (pv 0) (pv 5) (fun _ _ => rfl)) (pa_nil))) (pe_int))) (pe_op op_mulX (pe_int) (pv 5))) (pa_nil))) (pe_int)))))
      (pss_one (ps_ret (pe_lst (pa_cons (pv 3) (pa_cons (pv 4) (pa_cons (pe_int) (pa_nil)))))))))), ?_⟩
  have hlen : (ns.map V.int).length = ns.length := List.length_map _
  have item : ∀ {σ : L2.St} {H1 : Hp} {te : TE} {j : Nat} {z : Int}, σ[0]? = some (some (.ref a)) → Ex H H1 → Ev te σ H1 (.int (j : Int)) → ns[j]? = some z → Ev (tOp (rIx K) (tVar 0) te) σ H1 (.int z) := fun {σ H1 te j z} h0 e hj hz => ev_ixL (ev_var h0) hj (ex_l e ha) (atI_nat (by rw [List.getElem?_map, hz]; rfl))
  have lenE : ∀ {σ : L2.St} {H1 : Hp}, σ[0]? = some (some (.ref a)) → Ex H H1 → Ev (tCB (rLenX K) (tCons (tVar 0) tNil)) σ H1 (.int (ns.length : Int)) := fun {σ H1} h0 e => ev_is (ev_cb1 (ev_var h0) (rc_lenL (ex_l e ha))) (by rw [hlen])
  obtain ⟨z, hz⟩ : ∃ z : Int, z = ns.getD i 0 := ⟨_, rfl⟩
  refine q_asg (v := .int z) (ev_if (et_test (ev_op (ev_var rfl) (lenE rfl (Ex.refl _)) rv_lt)) (fun hb => ?_) fun hb => ?_) fun H1 e1 => ?_
  · have hlt : i < ns.length := by
      have := of_decide_eq_true hb
      omega
    exact item rfl (Ex.refl _) (ev_var rfl) (by rw [hz, List.getD_eq_getElem?_getD, List.getElem?_eq_getElem hlt]; rfl)
  · have hge : ns.length ≤ i := by
      have := of_decide_eq_false hb
      omega
    have : z = 0 := by rw [hz, List.getD_eq_getElem?_getD, List.getElem?_eq_none hge]; rfl
    rw [this]
    exact ev_c
  generalize hab : (if z < 0 then -z else z) = ab
  have hab0 : 0 ≤ ab := by
    rw [← hab]
    split <;> omega
  have e60 : (10 : Int) ^ (60 : Int).toNat = 10 ^ 60 := rfl
  have p60 : ∀ {σ : L2.St} {H1 : Hp}, Ev (tOp (rI CPow fun i j => .int (i ^ j.toNat)) (tC (.int 10)) (tC (.int 60))) σ H1 (.int (10 ^ 60)) := fun {σ H1} => ev_op ev_c ev_c (rv_I (C := CPow) (g := fun i j => V.int (i ^ j.toNat)) (i := 10) (j := 60) ⟨by decide, by decide, by decide⟩)
  have p18 : ∀ {σ : L2.St} {H1 : Hp}, Ev (tOp (rI CPow fun i j => .int (i ^ j.toNat)) (tC (.int 10)) (tC (.int 18))) σ H1 (.int (10 ^ 18)) := fun {σ H1} => ev_op ev_c ev_c (rv_I (C := CPow) (g := fun i j => V.int (i ^ j.toNat)) (i := 10) (j := 18) ⟨by decide, by decide, by decide⟩)
  obtain ⟨lg, hlg⟩ : ∃ lg : Int, lg = if (10 : Int) ^ 18 ≤ ab then ab % (10 ^ 60 * 10 ^ 60 * 10 ^ 60) else 0 := ⟨_, rfl⟩
  have hlg2 : 0 ≤ lg ∧ lg < 10 ^ 180 := by
    rw [hlg]
    split
    · have := mod_in (x := ab) (m := 10 ^ 60 * 10 ^ 60 * 10 ^ 60) (by decide)
      exact ⟨this.1, by omega⟩
    · decide
  refine q_asg (v := .int lg) (ev_if (et_test (ev_op (ev_is (ev_cb1 (ev_var rfl) rc_abs) (by rw [hab])) p18 rv_ge)) (fun hb => ?_) fun hb => ?_) fun H2 e2 => ?_
  · rw [hlg, if_pos (of_decide_eq_true hb)]
    exact ev_op (ev_cb1 (ev_is (ev_cb1 (ev_var rfl) rc_abs) (by rw [hab])) rc_int1) (ev_op (ev_op p60 p60 (rv_mulI (wide_mul (a := 201) (b := 201) (by decide) (by decide) (by decide) (by decide) (by decide)))) p60 (rv_mulI (wide_mul (a := 401) (b := 201) (by decide) (by decide) (by decide) (by decide) (by decide)))) (rv_modI (by decide))
  · rw [hlg, if_neg (of_decide_eq_false hb)]
    exact ev_c
  refine q_asg (v := .int ((z + 7919 * (i : Int) + 29) % 2147483647)) (ev_op (ev_cb1 (ev_op (ev_op (ev_var rfl) (ev_op ev_c (ev_var rfl) (rv_mulI (wide_mul (a := 20) (b := 20) (by decide) (by omega) (by decide) (by decide) (by decide)))) rv_addI) ev_c rv_addI) rc_int1) ev_c (rv_modI (by decide))) fun H3 e3 => ?_
  have hm3 := mod_in (x := z + 7919 * (i : Int) + 29) (m := 2147483647) (by decide)
  generalize (z + 7919 * (i : Int) + 29) % 2147483647 = mx at hm3 ⊢
  have e03 := (e1.trans e2).trans e3
  obtain ⟨cnt, hcnt⟩ : ∃ c : Nat, c = min ns.length 9 := ⟨_, rfl⟩
  refine q_forR1 (n := (cnt : Int)) (ea_cons (ev_is (ev_cb2 (lenE rfl e03) (ev_c (v := .int ((9 : Nat) : Int))) rc_min2) (by rw [hcnt])) ea_nil) (by omega) (fun j σ' H' => ∃ (mx : Int) (x5 : Option V), σ' = [some (.ref a), some (.int (i : Int)), some (.int z), some (.int lg), some (.int mx), x5] ∧ Ex H H' ∧ 0 ≤ mx ∧ mx < 2147483647) (fun H4 e4 => ⟨mx, _, rfl, e03.trans e4, by omega, by omega⟩) (fun j σ' H' hj p => ?_) fun σ' H' p => ?_
  · obtain ⟨mx, x5, rfl, e4, m0, m1⟩ := p
    have hjl : j < ns.length := by omega
    have hpow : CPow mx 5 := ⟨by decide, by decide, by omega⟩
    refine s_asg (v := .int ((mx ^ 5 + ns[j] % 2147483629 + 31 * (j : Int)) % 2147483647)) (ev_op (ev_cb1 (ev_op (ev_op (ev_op (ev_var rfl) ev_c (rv_I hpow)) (ev_op (ev_cb1 (item rfl e4 (ev_var rfl) (List.getElem?_eq_getElem hjl)) rc_int1) ev_c (rv_modI (by decide))) rv_addI) (ev_op ev_c (ev_var rfl) (rv_mulI (wide_mul (a := 20) (b := 20) (by decide) (by omega) (by decide) (by decide) (by decide)))) rv_addI) rc_int1) ev_c (rv_modI (by decide))) fun H5 e5 => ⟨_, _, rfl, e4.trans e5, (mod_in (by decide)).1, ?_⟩
    have := (mod_in (x := mx ^ 5 + ns[j] % 2147483629 + 31 * (j : Int)) (m := 2147483647) (by decide)).2
    omega
  · obtain ⟨mx, x5, rfl, e4, m0, m1⟩ := p
    exact (el_lst (σ := [some (.ref a), some (.int (i : Int)), some (.int z), some (.int lg), some (.int mx), x5]) (H := H') (ea_cons (ev_var (i := 3) rfl) (ea_cons (ev_var (i := 4) rfl) (ea_cons (ev_c (v := .int 0)) ea_nil))) (show (3 : Nat) ≤ 100000 by decide)) H' (Ex.refl _) Q fun p H5 hp e5 h5 => q p H5 (fresh_back e4 hp) (e4.trans e5) ⟨lg, mx, 0, h5, hlg2.1, hlg2.2, m0, m1, Int.le_refl _, Int.le_refl _⟩
end
end Tar

/-! TaE1 -/
set_option Elab.async false
set_option linter.all false
set_option maxRecDepth 100000
/-! != of two lists whose items are all equal; == of bytes inside a tuple -/
namespace TarNe
open PySem PySem.SeqAt
open AutoSeq1 (wpAny_loadPart')
open MeetsSeq MeetsSeq2 MeetsSeq3 SeqRoads2
section
variable {prog : Program} {w : World} {A : Around} {R : Result → Shared → Prop}
theorem ne_loop (l b : Addr) (N : Nat) (I : Nat → Shared → Prop) (hl : GQ.ListI prog w A (fun e s' => R (.error e) s') l b N I)
    (fin : ∀ s, I N s → R (.ok (.ret (.bool false))) s) (k : Nat) :
    ∀ i : Nat, N - i = k → i ≤ N → ∀ s, I i s →
      wpAny (model prog w) A.in1 (Builtin.«list.__eq__.loop» ⟨[.ref l, .ref b, rawInt i, rawInt 3], []⟩) (GQ.FinOf prog w A R) (fun e s' => R (.error e) s') s := by
  induction k with
  | zero =>
    intro i hk hi s h
    obtain ⟨xs, ys, n, n2, h1, h2, z1, z2, _⟩ := hl _ _ h
    have hi' : i = N := by omega
    have hR : R (.ok (.ret (.bool false))) s := fin s (hi' ▸ h)
    obtain ⟨hp, g, d, tk, os⟩ := s
    wp_walk using wpAny_loadPart' h1, wpAny_loadPart' h2
    have e1 : xs[((i : Nat) : Int).toNat]? = none := by simp; omega
    have e2 : ys[((i : Nat) : Int).toNat]? = none := by simp; omega
    rw [e1, e2]
    wp_walk using wpAny_loadPart' h1, wpAny_loadPart' h2
    show R (.ok (.ret (.bool (xs.size != ys.size)))) _
    rw [z1, z2]
    simpa using hR
  | succ k ih =>
    intro i hk hi s h
    obtain ⟨xs, ys, n, n2, h1, h2, z1, z2, turn⟩ := hl _ _ h
    have lx : i < xs.size := by omega
    have ly : i < ys.size := by omega
    have ht := turn lx ly
    obtain ⟨hp, g, d, tk, os⟩ := s
    wp_walk using wpAny_loadPart' h1, wpAny_loadPart' h2
    have e1 : xs[((i : Nat) : Int).toNat]? = some xs[i] := by simp [lx]
    have e2 : ys[((i : Nat) : Int).toNat]? = some ys[i] := by simp [ly]
    have hc : ((i : Int) + 1) = ((i + 1 : Nat) : Int) := by omega
    rw [e1, e2]
    refine wpAny_bind (wpAny_mono ht (fun r s2 q => ?_) fun _ _ x => x)
    obtain ⟨hr, q⟩ := q
    subst hr
    have hrec := ih (i + 1) (by omega) (by omega) s2 q
    obtain ⟨hp2, g2, d2, tk2, os2⟩ := s2
    wp_walk
    rw [hc]
    exact ⟨plainId_quiet plain_eq_loop _, codeAny_builtin entry_eq_loop (by
      rw [Around.under_plainId plain_eq_loop _]
      exact hrec)⟩
theorem list_ne (l b : Addr) (N : Nat) (I : Nat → Shared → Prop) (hl : GQ.ListI prog w A (fun e s' => R (.error e) s') l b N I)
    (fin : ∀ s, I N s → R (.ok (.ret (.bool false))) s) {s : Shared} (h : I 0 s) :
    wpAny (model prog w) A.in1 (Builtin.«list.__ne__» ⟨[.ref l, .ref b], []⟩) (GQ.FinOf prog w A R) (fun e s' => R (.error e) s') s := by
  obtain ⟨xs, ys, n, n2, h1, h2, z1, z2, _⟩ := hl _ _ h
  have hrec := ne_loop (A := A) (R := R) l b N I hl fin _ 0 rfl (Nat.zero_le _) s h
  obtain ⟨hp, g, d, tk, os⟩ := s
  have sub := AutoSeq1.sub_list_list
  have hne : ¬ (xs.size != ys.size) = true := by simp [z1, z2]
  wp_walk using wpAny_loadPart' h1, wpAny_loadPart' h2
  exact ⟨plainId_quiet plain_eq_loop _, codeAny_builtin entry_eq_loop (by
    rw [Around.under_plainId plain_eq_loop _]
    exact hrec)⟩
end
section
variable {prog : Program} {w : World} {A : Around} {E : Value → Shared → Prop} {s : Shared}
theorem rc_ne {l b : Addr} {N : Nat} {Q : Value → Shared → Prop} (hu : A.units < cLine) (I : Nat → Shared → Prop) (hl : GQ.ListI prog w A E l b N I)
    (fin : ∀ s, I N s → Q (.bool false) s) (h : I 0 s) : wpAny (model prog w) A (richCompare .NotEq (.ref l) (.ref b)) Q E s := by
  obtain ⟨xs, ys, n, n2, h1, h2, _, _, _⟩ := hl _ _ h
  refine wpAny_richCompare_same_room (op := .NotEq) ⟨_, h1, rfl⟩ ⟨_, h2, rfl⟩ F.slot_list_ne (GQ.call_here F.slot_list_ne ⟨_, h1, rfl⟩ F.entry_list_ne (F.args_list_ne_2 _ _) ?_) hu
  exact list_ne (R := wants (fun v s' => v ≠ .notImplemented ∧ Q v s') E) l b N I hl (fun s' q => ⟨(fun x => nomatch x), fin s' q⟩) h
end
end TarNe
namespace Tar
open PySem PySem.Spec PyProof.Rows L2 Evl
section
variable {X : Cx} {n : Nat} {D : Eqv}
/-- xs != ys as an expression, item by item equal: False -/
def rNeG (D : Eqv) : R2 := fun x y H Q => DList D x y H ∧ ∀ H', Ext H H' → Q (.bl false) H'
theorem op_neG (hD : Mon D) (h : EqG X n D) (hr : Room (n + 1) X.A) : OpR X (compareOp .NotEq) (rNeG D) := by
  intro pins s σ H x y v u Q I rx ry hq
  obtain ⟨⟨a, b, xs, ys, rfl, rfl, ha, hb, p⟩, q⟩ := hq
  cases rx
  cases ry
  show wpAny (model X.prog X.w) X.A (richCompare .NotEq (.ref a) (.ref b)) (EP X pins σ Q) X.xe s
  have sb : Sub X (n + 1) X.A := ⟨hr, rfl⟩
  refine TarNe.rc_ne (N := xs.length) sb.room.units0 (fun _ s' => LoopI X pins σ H s') (fun i s' l => ?_) (fun s' l => ?_) ⟨H, I, Ext.rfl'⟩
  · obtain ⟨H1, I1, e1⟩ := id l
    obtain ⟨z, its, k, r, e⟩ := I1.hok a _ (e1 _ _ ha)
    obtain ⟨z2, its2, k2, r2, e2⟩ := I1.hok b _ (e1 _ _ hb)
    exact ⟨its.toArray, its2.toArray, k, k2, e, e2, by rw [List.size_toArray, ← r.length], by rw [List.size_toArray, ← r2.length, ← p.1], fun q1 q2 => turnG hD h sb p r r2 i q1 q2 s' l⟩
  · obtain ⟨H1, I1, e1⟩ := l
    exact ⟨.bl false, H1, I1, rfl, q H1 e1⟩
/-- bytes, the same -/
def DByt : Eqv := fun x y _ => ∃ l : Array UInt8, x = .byt l ∧ y = .byt l
theorem mon_byt : Mon DByt := fun _ _ _ _ _ d => d
theorem eqG_byt : EqG X 0 DByt := by
  intro A pins s σ H x y u v sb I rx ry d
  obtain ⟨l, rfl, rfl⟩ := d
  obtain ⟨t, rfl⟩ := rx
  obtain ⟨t2, rfl⟩ := ry
  unfold eqBool
  refine wpAny_holding ?_
  refine wpAny_ite_split (fun _ => ?_) fun _ => ?_
  · exact wpAny_bind (wpAny_rule (wpAny_pure ⟨rfl, H, I, Ext.rfl'⟩))
  · refine wpAny_bind (W.eq_bytes (wpAny_truthy_bool ⟨?_, H, I, Ext.rfl'⟩))
    simp
end
end Tar

/-! TaE2 -/
set_option Elab.async false
set_option linter.all false
set_option maxRecDepth 100000
set_option maxHeartbeats 400000
/-! == of members -/
namespace Tar
open PySem PySem.Spec PyProof.Rows L2 Evl
def DAtom : Eqv := fun x y H => DFlat x y H ∨ DByt x y H
theorem mon_atom : Mon DAtom := Mon.or mon_flat mon_byt
def DPc (K : PySem.W.Frag) : Eqv := DTup K DAtom
def DPcs (K : PySem.W.Frag) : Eqv := DTup K (DPc K)
def DKey0 (K : PySem.W.Frag) : Eqv := fun x y H => DAtom x y H ∨ DPcs K x y H
def DKey (K : PySem.W.Frag) : Eqv := DTup K (DKey0 K)
theorem mon_key0 {K : PySem.W.Frag} : Mon (DKey0 K) := Mon.or mon_atom (mon_tup (mon_tup mon_atom))
theorem eqG_atom {X : Cx} : EqG X 0 DAtom := EqG.or eqG_flat eqG_byt
theorem rcG_key {X : Cx} {K : PySem.W.Frag} (hK : X.K = K := by rfl) : RcG X 3 (DKey K) := by
  subst hK
  exact rcG_tup mon_key0 (EqG.or (EqG.mono eqG_atom (by decide)) (eqG_tup (mon_tup mon_atom) (eqG_tup mon_atom eqG_atom)))
/-- two members alike -/
def MemEq (cs : Cs) (a b : Addr) (H : Hp) : Prop := ∃ m, MemR cs m (.ref a) H ∧ MemR cs m (.ref b) H
def DMem (cs : Cs) : Eqv := fun x y H => ∃ m, MemR cs m x H ∧ MemR cs m y H
theorem mon_mem (cs : Cs) : Mon (DMem cs) := fun x y H H' e ⟨m, h1, h2⟩ => ⟨m, memR_sta cs m _ _ _ e h1, memR_sta cs m _ _ _ e h2⟩
theorem atom_str {s : Str} {H : Hp} : DAtom (.str s) (.str s) H := .inl ⟨rfl, rfl, beq_self_eq_true s⟩
theorem atom_int {i : Int} {H : Hp} : DAtom (.int i) (.int i) H := .inl ⟨rfl, rfl, beq_self_eq_true i⟩
theorem atom_byt {l : Array UInt8} {H : Hp} : DAtom (.byt l) (.byt l) H := .inr ⟨l, rfl, rfl⟩
theorem pcs_eq {K : PySem.W.Frag} {H : Hp} {p q : Addr} {ps : List (Nat × List UInt8)} (h1 : PcU H p ps) (h2 : PcU H q ps) : DPcs K (.ref p) (.ref q) H := by
  obtain ⟨as, g1, g2, g3⟩ := h1
  obtain ⟨bs, k1, k2, k3⟩ := h2
  refine ⟨p, q, _, _, rfl, rfl, st_of g1, st_of k1, by simp [g2, k2], fun i x y hx hy => ?_⟩
  rw [List.getElem?_map] at hx hy
  obtain ⟨a, ha, rfl⟩ := Option.map_eq_some_iff.mp hx
  obtain ⟨b, hb, rfl⟩ := Option.map_eq_some_iff.mp hy
  have hi : i < ps.length := by
    have := (List.getElem?_eq_some_iff.mp ha).1
    omega
  have hz := List.getElem?_eq_getElem hi
  exact ⟨a, b, _, _, rfl, rfl, st_of (g3 i a _ ha hz), st_of (k3 i b _ hb hz), Prs.cons atom_int (Prs.cons atom_byt Prs.nil)⟩
theorem key_eq {K : PySem.W.Frag} {cs : Cs} {m : Mem} {x dx key p x2 dx2 key2 p2 : Addr} {H : Hp} (a : MemAt K cs m x dx key p H) (b : MemAt K cs m x2 dx2 key2 p2 H) : DKey K (.ref key) (.ref key2) H := by
  refine ⟨key, key2, _, _, rfl, rfl, st_of a.key, st_of b.key, Prs.cons (.inl atom_str) (Prs.cons (.inl atom_str) (Prs.cons (.inl atom_int) (Prs.cons (.inl atom_int) ?_)))⟩
  have ha := a.pcs
  have hb := b.pcs
  cases m with
  | file => exact Prs.cons (.inl atom_byt) Prs.nil
  | sparse => exact Prs.cons (.inl atom_int) (Prs.cons (.inr (pcs_eq ha hb)) Prs.nil)
  | dir => exact Prs.nil
  | sym => exact Prs.cons (.inl atom_str) Prs.nil
  | link => exact Prs.cons (.inl atom_str) Prs.nil
/-- what isinstance and == ask of the members' classes -/
structure EqK (K : PySem.W.Frag) (cs : Cs) (CM f : Addr) : Prop where
  hn : PySem.W.specialIn K (.builtin "object.__class__") "__get__" = some (some (.builtin "getset_descriptor.__get__"))
  htk : PySem.W.takesIn K (.builtin "object.__class__") = some true
  fn : PySem.W.isFn K (.ref f) = true
  at_ : ∀ m : Mem, PySem.W.findIn K (.ref (m.cls cs)) "__class__" = some (some (.builtin "object.__class__")) ∧ PySem.W.mroIn K (m.cls cs) (.type "object") = some true ∧ PySem.W.kitOne K (.ref (m.cls cs)) (.ref CM) = some true ∧ PySem.W.findIn K (.ref (m.cls cs)) "__eq__" = some (some (.ref f))
section
variable {P : Program} {w : World} {K : PySem.W.Frag} {mg : Str → Option Value} {base : Heap}
theorem sc_Member___eq__ : FnScope ["self", "other"] ["self", "other"] (defScope (inClass (topS 32) 2)) := ⟨rfl, rfl, rfl, by decide +kernel, rfl, by decide +kernel, by decide +kernel⟩
theorem ok_MemEq (g : GF K mg) {cs : Cs} {CM f : Addr} (c : CF K cs) (hMem : GV mg "Member" (.ref CM)) (E : EqK K cs CM f) (D : ∃ fd, FunD K "__eq__" "Member.__eq__" (defArgs (inClass (topS 32) 2)) (defBody (inClass (topS 32) 2)) (defScope (inClass (topS 32) 2)) [] [] f fd) : ∃ fd, FnOk P w K mg base C8.CX0 4 f fd ["self", "other"] (spEq (MemEq cs)) ∧ Binds K fd ["self", "other"] [] := by
  obtain ⟨fd, F⟩ := D
  refine ⟨fd, F.ok sc_Member___eq__ (fun vs H Q E h => by obtain ⟨a, b, rfl, _⟩ := h; rfl) fun cdv A outer s H vs Q Ex0 hr hs => ?_, F.bindsN fun _ _ _ _ _ _ us hl => match us, hl with | [_, _], _ => rfl⟩
  have hu := hr.units
  obtain ⟨a, b, rfl, ⟨m, ha, hb⟩, q⟩ := hs
  suffices ∃ t, PSs (cxOf C8.CX0 P w K mg base ["self", "other"] "Member.__eq__" (defScope (inClass (topS 32) 2)) f cdv A outer s H Ex0).nox (defBody (inClass (topS 32) 2)) t ∧ t { nx := fun _ H' => Q .non H', rt := Q } (start ["self", "other"] [.ref a, .ref b]) H from ⟨this.choose, this.choose_spec.1.nox, this.choose_spec.2⟩
  refine ⟨_, pss_one (ps_ret (pe_and (pe_callB (cr_isiX (K := K)) rfl g.n_isinstance bo_isinstance (pa_cons (pv 1) (pa_cons (C8.pe_gc rfl hMem) pa_nil))) (pe_one (pe_cmpR (op_eqG (rcG_key (K := K)) hr) (pe_fldK (K := K) (pv 0) rfl) (pe_fldK (K := K) (pv 1) rfl) (nomark _))))), ?_⟩
  obtain ⟨x, dx, key, p, e1, ma⟩ := ha.open_ c
  obtain ⟨x2, dx2, key2, p2, e2, mb⟩ := hb.open_ c
  cases e1
  cases e2
  obtain ⟨k1, k2, k3, _⟩ := E.at_ m
  refine s_ret (ev_andV (a := true) (b := true) (ev_cb (ea_cons (ev_var rfl) (ea_cons ev_c ea_nil)) fun H1 e Q q => .inl ⟨.ref b, .ref CM, .ref (m.cls cs), .ref CM, true, rfl, .own CM, .base (.ins (e _ _ mb.at_) mb.cl.cl k1 E.hn E.htk k2), k3, q H1 (Ex.refl _)⟩) fun _ => ev_op (ma.keyf (ev_var rfl)) (mb.keyf (ev_var rfl)) fun H1 e Q q => ⟨key_eq (ma.ex e) (mb.ex e), fun H2 e2 => q H2 e2⟩) fun H1 e => q H1 e
/-- == of members inside a list -/
theorem eqG_mem {X : Cx} {cs : Cs} {CM f : Addr} {fd : FuncData} (c : CF X.K cs) (E : EqK X.K cs CM f) (F : FnOk X.prog X.w X.K X.mg X.base C8.CX0 4 f fd ["self", "other"] (spEq (MemEq cs))) (b : Binds X.K fd ["self", "other"] []) : EqG X 4 (DMem cs) := by
  intro A pins s σ H x y u v sb I rx ry d
  obtain ⟨m, ha, hb⟩ := d
  obtain ⟨k1, k2, k3, k4⟩ := E.at_ m
  obtain ⟨x1, dx, key, p, rfl, ma⟩ := ha.open_ c
  obtain ⟨x2, dx2, key2, p2, rfl, mb⟩ := hb.open_ c
  exact eqG_ins (E := C8.E0) (R := MemEq cs) (C := m.cls cs) F k4 E.fn b C8.pass0 A pins s σ H _ _ u v sb I rx ry ⟨x1, x2, dx, dx2, _, _, rfl, rfl, ma.at_, mb.at_, m, ha, hb⟩
end
end Tar

/-! TaE3 -/
set_option Elab.async false
set_option linter.all false
set_option maxRecDepth 100000
set_option maxHeartbeats 400000
/-! the law -/
namespace Tar
open PySem PySem.Spec PyProof.Rows L2 Evl
theorem dp_ints {K : PySem.W.Frag} {H : Hp} : ∀ ns : List Int, DpAll K H (ns.map V.int) (ns.map PyData.int)
  | [] => .nil
  | n :: r => .cons (.int n) (dp_ints r)
theorem can_ints : ∀ ns : List Int, PyData.canLayAll0 (ns.map PyData.int) = true
  | [] => rfl
  | n :: r => by
    show (PyData.canLay0 (.int n) && PyData.canLayAll0 (r.map PyData.int)) = true
    rw [can_ints r]
    rfl
theorem dep_ints : ∀ ns : List Int, PyData.depthAll (ns.map PyData.int) = 0
  | [] => rfl
  | n :: r => by
    show max (PyData.depth (.int n)) (PyData.depthAll (r.map PyData.int)) = 0
    rw [dep_ints r]
    rfl
theorem shaped_ints (ns : List Int) : SeqAt.shaped (.list (ns.map PyData.int)) = true := by
  unfold SeqAt.shaped
  have h1 : PyData.canLay0 (.list (ns.map PyData.int)) = true := can_ints ns
  have h2 : PyData.depth (.list (ns.map PyData.int)) = 1 := by
    show PyData.depthAll (ns.map PyData.int) + 1 = 1
    rw [dep_ints]
  rw [h1, h2]
  rfl
theorem eqv_ints : ∀ ns ms : List Int, PyData.eqvAll (ns.map PyData.int) (ms.map PyData.int) = decide (ns = ms)
  | [], [] => rfl
  | [], _ :: _ => rfl
  | _ :: _, [] => rfl
  | n :: r, m :: q => by
    show ((n == m) && PyData.eqvAll (r.map PyData.int) (q.map PyData.int)) = _
    rw [eqv_ints r q, Bool.eq_iff_iff]
    simp
section
variable {K : PySem.W.Frag} {σ : L2.St} {H : Hp} {ta tb te : TE} {D : Ends} {tz : TS}
theorem ev_eqLL {ns ms : List Int} (h : EvL ta σ H (ns.map V.int)) (h2 : EvL tb σ H (ms.map V.int)) : Ev (tOp (rEqX K) ta tb) σ H (.bl (decide (ns = ms))) :=
  ev_opLL h h2 fun p q H1 hp hq _ => fun H2 e2 Q k => .inr ⟨_, _, .lst (sq_of (e2 _ _ hp)) (dp_ints ns), .lst (sq_of (e2 _ _ hq)) (dp_ints ms), shaped_ints ns, shaped_ints ms, by
    have e : PyData.eqv (.list (ns.map PyData.int)) (.list (ms.map PyData.int)) = decide (ns = ms) := eqv_ints ns ms
    rw [e]
    exact k H2 (Ex.refl _)⟩
theorem el_slV {a : Addr} {xs : List V} {tl th : TO} {lo hi : Option Int} (h : Ev te σ H (.ref a)) (ha : H a = some (.lst xs)) (h1 : EvO tl σ H lo) (h2 : EvO th σ H hi) : EvL (tSl (rSlX K) te tl th) σ H (cutV xs lo hi) := fun H1 e1 Q q =>
  h H1 e1 _ fun H2 e2 => h1 H2 (e1.trans e2) _ fun H3 e3 => h2 H3 ((e1.trans e2).trans e3) _ fun H4 e4 => .inr (.inr ⟨a, xs, rfl, sq_of (e4 _ _ (e3 _ _ (e2 _ _ (e1 _ _ ha)))), fun p hp => q p _ (fresh_back ((e2.trans e3).trans e4) hp) (((e2.trans e3).trans e4).trans (Ex.new hp)) upd_same⟩)
end
theorem cut_ints (ns : List Int) (i j : Nat) : cutV (ns.map V.int) (some (i : Int)) (some (j : Int)) = ((ns.drop i).take (j - i)).map V.int := by
  unfold cutV
  rw [HT.sIx_nat, HT.sIx_nat, List.length_map, ← List.map_drop, ← List.map_take]
  congr 1
  by_cases hi : i ≤ ns.length
  · rw [Nat.min_eq_left hi]
    by_cases hj : j ≤ ns.length
    · rw [Nat.min_eq_left hj]
    · rw [Nat.min_eq_right (by omega), List.take_of_length_le (by rw [List.length_drop] <;> omega), List.take_of_length_le (by rw [List.length_drop] <;> omega)]
  · rw [Nat.min_eq_right (by omega : ns.length ≤ i), List.drop_of_length_le (Nat.le_refl _), List.drop_of_length_le (by omega : ns.length ≤ i), List.take_nil, List.take_nil]
theorem byte_zero {n : Int} (h : inByte n) (e : n.toNat.toUInt8 = 0) : n = 0 := by
  have h1 := congrArg UInt8.toNat e
  have h2 : (n.toNat.toUInt8).toNat = n.toNat % 256 := UInt8.toNat_ofNat'
  unfold inByte at h
  rw [h2] at h1
  have h3 : (0 : UInt8).toNat = 0 := rfl
  rw [h3] at h1
  omega
theorem bytes_zero {xs : List Int} (h : ∀ x ∈ xs, inByte x) : bytesOf xs = zs 1024 ↔ xs = List.replicate 1024 0 := by
  constructor
  · intro e
    have hl : xs.length = 1024 := by
      have := congrArg List.length e
      unfold bytesOf at this
      rw [List.length_map, zs_len] at this
      exact this
    refine List.eq_replicate_iff.mpr ⟨hl, fun x hx => byte_zero (h x hx) ?_⟩
    have hm : x.toNat.toUInt8 ∈ bytesOf xs := List.mem_map.mpr ⟨x, hx, rfl⟩
    rw [e] at hm
    exact List.eq_of_mem_replicate hm
  · intro e
    rw [e]
    unfold bytesOf zs
    rw [List.map_replicate]
    rfl
theorem over_iff {ns : List Int} (h : ∀ x ∈ ns, inByte x) (E : Nat) : decide ((ns.drop E).take (E + 1024 - E) = List.replicate 1024 0) = decide (sub (bytesOf ns) E (E + 1024) = zs 1024) := by
  rw [decide_eq_decide, ← bytes_zero fun x hx => h x (List.mem_of_mem_drop (List.mem_of_mem_take hx))]
  unfold sub bytesOf
  rw [← List.map_drop, ← List.map_take]
section
variable {P : Program} {w : World} {K : PySem.W.Frag} {mg : Str → Option Value} {base : Heap}
def spLaw (K : PySem.W.Frag) : Sp := fun vs H Q _ => ∃ (a : Addr) (ns : List Int), vs = [.ref a] ∧ SqL K H a (ns.map V.int) ∧ ns.length ≤ 63 ∧ ∀ H', Q (.bl true) H'
theorem sc_law : FnScope ["_law_script", "_law_k", "_law_source_here", "_law_turn", "_law_numbers", "_law_data_here", "_law_found", "_law_trouble", "_law_made", "_law_end", "_law_spot", "_law_one", "_law_again", "_law_is_over"] ["_law_script"] (defScope (topS 106)) := ⟨rfl, rfl, rfl, by decide +kernel, rfl, by decide +kernel, by decide +kernel⟩
theorem ok_law {cs : Cs} {CM fe f : Addr} {fde fd : FuncData} (g : GF K mg) (c : CF K cs) (EK : EqK K cs CM fe) (Feq : FnOk P w K mg base C8.CX0 4 fe fde ["self", "other"] (spEq (MemEq cs))) (beq : Binds K fde ["self", "other"] []) (c_read : C8.Cal P w K mg base 10 "read" (spRead cs) []) (c_written : C8.Cal P w K mg base 7 "written" (spWritten K cs) []) (c_blocks_of : C8.Cal P w K mg base 7 "blocks_of" (spBlocksOf cs) []) (c_scan : C8.Cal P w K mg base 9 "scan" (spScan K cs) [.int 0]) (c_blob : C8.Cal P w K mg base 3 "blob" (spBlob K) []) (c_law_random_data : C8.Cal P w K mg base 6 "_law_random_data" (spRData) []) (c_law_source : C8.Cal P w K mg base 1 "_law_source" (spSource K) []) (F : FnD K "law" (topS 106) f fd) : FnOk P w K mg base C8.CX0 11 f fd ["_law_script"] (spLaw K) := by
  refine F.ok sc_law (fun vs H Q E h => by obtain ⟨a, ns, rfl, _⟩ := h; rfl) fun cdv A outer s H vs Q E0 hr h => ?_
  have hu := hr.units
  have hu1 := hu_of hr
  obtain ⟨a, scr, rfl, hsc, hln, q⟩ := h
  suffices ∃ t, PSs (cxOf C8.CX0 P w K mg base ["_law_script", "_law_k", "_law_source_here", "_law_turn", "_law_numbers", "_law_data_here", "_law_found", "_law_trouble", "_law_made", "_law_end", "_law_spot", "_law_one", "_law_again", "_law_is_over"] "law" (defScope (topS 106)) f cdv A outer s H E0).nox (defBody (topS 106)) t ∧ t { nx := fun _ H' => Q .non H', rt := Q } (start ["_law_script", "_law_k", "_law_source_here", "_law_turn", "_law_numbers", "_law_data_here", "_law_found", "_law_trouble", "_law_made", "_law_end", "_law_spot", "_law_one", "_law_again", "_law_is_over"] [.ref a]) H from ⟨this.choose, this.choose_spec.1.nox, this.choose_spec.2⟩
  refine ⟨_, pss_cons (ps_for PassesOwn.never rfl (pi_range1 rfl g.n_range (pa_cons (pe_callB (call_max2 rfl) rfl g.n_max bo_max (pa_cons (pe_int) (pa_cons (pe_callB (call_min2 rfl) rfl g.n_min bo_min (pa_cons (pe_int) (pa_cons (pe_callB (cr_lenX (K := K)) rfl g.n_len bo_len (pa_cons (pv 0) (pa_nil))) (pa_nil)))) (pa_nil)))) pa_nil)) (pg_name (i := 1) sc_law.nd rfl (Or.inl rfl))
      (pss_cons (ps_set (i := 2) sc_law.nd rfl (Or.inl rfl) (C8.pe_c c_law_source hr (by decide) rfl (pa_cons (pv 0) (pa_cons (pv 1) (pa_nil)))))
      (pss_one (ps_for PassesOwn.never rfl (pi_range1 rfl g.n_range (pa_cons (pe_int) pa_nil)) (pg_name (i := 3) sc_law.nd rfl (Or.inl rfl))
      (pss_cons (ps_set (i := 4) sc_law.nd rfl (Or.inl rfl) (C8.pe_c c_law_random_data hr (by decide) rfl (pa_cons (pv 2) (pa_nil))))
      (pss_cons (ps_set (i := 5) sc_law.nd rfl (Or.inl rfl) (C8.pe_c c_blob hr (by decide) rfl (pa_cons (pv 4) (pa_nil))))
      (pss_cons (ps_asg (C8.pe_c c_scan hr (by decide) rfl (pa_cons (pv 5) (pa_nil))) (pg_tupK (K := K) (n := 2) rfl (pgs_cons (pg_name (i := 6) sc_law.nd rfl (Or.inl rfl)) (pgs_cons (pg_name (i := 7) sc_law.nd rfl (Or.inl rfl)) (pgs_nil)))))
      (pss_cons (ps_setLc (i := 8) (own := [("_law_spot", 10), ("_law_one", 11)]) (tt := tYes) rfl sc_law.nd rfl rfl (sw_true rfl rfl rfl (by decide +kernel)) (pi_listK (K := K) (pv 6)) (blkOk_by (N := ["_law_script", "_law_k", "_law_source_here", "_law_turn", "_law_numbers", "_law_data_here", "_law_found", "_law_trouble", "_law_made", "_law_end", "_law_spot", "_law_one", "_law_again", "_law_is_over"]) (sc := defScope (topS 106)) (by decide +kernel)) (fun _ _ _ _ _ => pg_tupK (K := K) (n := 2) rfl (pgs_cons (pg_name (i := 10) sc_law.nd rfl (Or.inl rfl)) (pgs_cons (pg_name (i := 11) sc_law.nd rfl (Or.inl rfl)) (pgs_nil)))) (fun _ _ _ _ _ => pts_nil) (fun _ _ _ _ _ => pv 11))
      (pss_cons (ps_set (i := 9) sc_law.nd rfl (Or.inl rfl) (pe_int))
      (pss_cons (ps_for PassesOwn.never rfl (pi_listK (K := K) (pv 6)) (pg_tupK (K := K) (n := 2) rfl (pgs_cons (pg_name (i := 10) sc_law.nd rfl (Or.inl rfl)) (pgs_cons (pg_name (i := 11) sc_law.nd rfl (Or.inl rfl)) (pgs_nil))))
      (pss_cons (ps_if (pt_cmpR (op_neX (K := K) hu) (pv 10) (pv 9) (nomark _)) (pss_one (ps_ret (pe_bl))) (pss_nil))
      (pss_one (ps_set (i := 9) sc_law.nd rfl (Or.inl rfl) (pe_op op_addX (pv 9) (pe_op op_mulX (pe_int) (C8.pe_c c_blocks_of hr (by decide) rfl (pa_cons (pv 11) (pa_nil)))))))))
      (pss_cons (ps_set (i := 12) sc_law.nd rfl (Or.inl rfl) (C8.pe_c c_written hr (by decide) rfl (pa_cons (pv 8) (pa_nil))))
      (pss_cons (ps_if (PW.pt (pw_or (pt_cmpR (op_neX (K := K) hu) (pe_slice (sl_X (K := K)) (pv 12) (po_none) (po_some (pv 9))) (pe_slice (sl_X (K := K)) (pv 5) (po_none) (po_some (pv 9))) (nomark _)) (pw_or1 (pt_cmpR (op_neX (K := K) hu) (pe_callB (cr_lenX (K := K)) rfl g.n_len bo_len (pa_cons (pv 12) (pa_nil))) (pe_op op_addX (pv 9) (pe_int)) (nomark _))))) (pss_one (ps_ret (pe_bl))) (pss_nil))
      (pss_cons (ps_set (i := 13) sc_law.nd rfl (Or.inl rfl) (pe_cmpR (op_eqX (K := K) hu) (pe_slice (sl_X (K := K)) (pv 4) (po_some (pv 9)) (po_some (pe_op op_addX (pv 9) (pe_int)))) (pe_op op_mulX (pe_lst (pa_cons (pe_int) (pa_nil))) (pe_int)) (nomark _)))
      (pss_cons (ps_if (pt_cmpR (op_neX (K := K) hu) (pv 13) (pe_cmpR op_isN1 (pv 7) (pe_non) (nomark _)) (nomark _)) (pss_one (ps_ret (pe_bl))) (pss_nil))
      (pss_cons (ps_if (PW.pt (pw_and (pt_val (pv 13)) (pw_and1 (pt_cmpR (op_neG (mon_mem cs) (eqG_mem (cs := cs) c EK Feq beq) (hr.mono (by decide))) (C8.pe_c c_read hr (by decide) rfl (pa_cons (pv 5) (pa_nil))) (pv 8) (nomark _))))) (pss_one (ps_ret (pe_bl))) (pss_nil))
      (pss_one (ps_if (PW.pt (pw_and (pt_cmpR op_notN1 (pv 7) (pe_non) (nomark _)) (pw_and1 (pt_not (pt_chain op_le op_le (pv 9) (pe_ix (ix_X (K := K)) (pv 7) (pe_int) (fun _ _ => rfl)) (pe_op op_addX (pv 9) (pe_int))))))) (pss_one (ps_ret (pe_bl))) (pss_nil))))))))))))))))))
      (pss_one (ps_ret (pe_bl))), ?_⟩
  have hlen : (scr.map V.int).length = scr.length := List.length_map _
  have iN : ∀ {x y : Int}, x = y → V.int x = V.int y := fun h => congrArg V.int h
  refine q_forR1 (n := ((max 1 (min 3 scr.length) : Nat) : Int)) (ea_cons (ev_cb2 (ev_c (v := .int ((1 : Nat) : Int))) (ev_cb2 (ev_c (v := .int ((3 : Nat) : Int))) (ev_is (ev_cb1 (ev_var rfl) (rc_lenL hsc)) (by rw [hlen])) rc_min2) rc_max2) ea_nil) (by omega) (fun i σ' H' => ∃ x1 x2 x3 x4 x5 x6 x7 x8 x9 x10 x11 x12 x13 : Option V, σ' = [some (.ref a), x1, x2, x3, x4, x5, x6, x7, x8, x9, x10, x11, x12, x13] ∧ Ex H H') (fun H1 e1 => ⟨_, _, _, _, _, _, _, _, _, _, _, _, _, rfl, e1⟩) (fun i σ' H' hi p => ?_) fun σ' H' p => s_ret ev_c fun H2 _ => q H2
  obtain ⟨x1, x2, x3, x4, x5, x6, x7, x8, x9, x10, x11, x12, x13, rfl, eH⟩ := p
  refine q_asgR (R := fun v H1 => ∃ p, v = .ref p ∧ H' p = none ∧ SrcOk p 0 H1) (er_call (ea_cons (ev_var rfl) (ea_cons (ev_var rfl) ea_nil)) fun H1 e Q q E => ⟨a, scr, i, rfl, ex_l (eH.trans e) hsc, by omega, hln, fun p H2 hp e2 s2 => q _ H2 e2 ⟨p, rfl, fresh_back e hp, s2⟩⟩) fun v H1 e1 hv => ?_
  obtain ⟨sa, rfl, hsa, s1⟩ := hv
  have hsa0 : H sa = none := fresh_back eH hsa
  refine s_forR1 (n := 4) (ea_cons ev_c ea_nil) (by decide) (fun j σ' H' => ∃ x3 x4 x5 x6 x7 x8 x9 x10 x11 x12 x13 : Option V, σ' = [some (.ref a), some (.int (i : Int)), some (.ref sa), x3, x4, x5, x6, x7, x8, x9, x10, x11, x12, x13] ∧ Ex H H' ∧ SrcOk sa (420 * j) H') (fun H2 e2 => ⟨_, _, _, _, _, _, _, _, _, _, _, rfl, (eH.trans e1).trans e2, s1.ex e2⟩) (fun j σ' H' hj p => ?_) fun σ' H' p => ?_
  rotate_left
  · obtain ⟨x3, x4, x5, x6, x7, x8, x9, x10, x11, x12, x13, rfl, e, _⟩ := p
    exact ⟨_, _, _, _, _, _, _, _, _, _, _, _, _, rfl, e⟩
  obtain ⟨x3, x4, x5, x6, x7, x8, x9, x10, x11, x12, x13, rfl, e2, s2⟩ := p
  refine q_asgS (sa := sa) (n := 420 * j) (k := 420) (R := fun v H1 => ∃ (p : Addr) (ns : List Int), v = .ref p ∧ H1 p = some (.lst (ns.map V.int)) ∧ (∀ x ∈ ns, inByte x) ∧ ns.length ≤ 40000) (fun Q' q' => ?_) fun v H3 e3 s3 hv => ?_
  · exact ev_var (i := 2) (v := .ref sa) rfl _ (Ex.refl _) (fun v H1 => spRData [v] H1 Q' C8.E0) fun H5 e5 => ⟨sa, 420 * j, rfl, s2.ex e5, by omega, fun p H6 ns e6 s6 h6 hb hl => q' _ H6 ((ExB.of e5).trans e6) s6 ⟨p, ns, rfl, h6, hb, hl⟩⟩
  obtain ⟨pn, ns, rfl, hns, hby, hnl⟩ := hv
  have e03 : Ex H H3 := fun b o hbo => e3 _ _ (ne_of_none hbo hsa0) (e2 _ _ hbo)
  have hnx : ∀ {H4 : Hp} {x3 x4 x5 x6 x7 x8 x9 x10 x11 x12 x13 : Option V}, Ex H3 H4 → ∃ y3 y4 y5 y6 y7 y8 y9 y10 y11 y12 y13 : Option V, [some (V.ref a), some (.int (i : Int)), some (.ref sa), x3, x4, x5, x6, x7, x8, x9, x10, x11, x12, x13] = [some (.ref a), some (.int (i : Int)), some (.ref sa), y3, y4, y5, y6, y7, y8, y9, y10, y11, y12, y13] ∧ Ex H H4 ∧ SrcOk sa (420 * (j + 1)) H4 := fun {H4 x3 x4 x5 x6 x7 x8 x9 x10 x11 x12 x13} e4 => ⟨_, _, _, _, _, _, _, _, _, _, _, rfl, e03.trans e4, (s3.ex e4).mono (by omega)⟩
  obtain ⟨d, hd⟩ : ∃ d, d = bytesOf ns := ⟨_, rfl⟩
  have hdl : d.length = ns.length := by rw [hd]; simp [bytesOf]
  have hz : d.length ≤ 16777216 := by omega
  refine q_asg (v := .byt d.toArray) (ev_call (ea_cons (ev_var rfl) ea_nil) (Ret.sp fun H1 e Q E q => ⟨pn, ns, rfl, e _ _ hns, hby, by omega, by rw [hd] at q; exact q⟩)) fun H4 e4 => ?_
  have so := scanOf_ok d
  have hcnt := scanOf_cnt d
  obtain ⟨r, hr0⟩ : ∃ r, scanOf d = r := ⟨_, rfl⟩
  rw [hr0] at so hcnt
  refine q_asgPR (R := fun x y H => ∃ l as, x = .ref l ∧ H l = some (.lst (as.map V.ref)) ∧ FndI cs H as r.1 ∧ TroR K r.2 y H) ((er_call (R := ScanR K cs r) (ea_cons (ev_var rfl) ea_nil) fun H1 e Q q E => ⟨d, rfl, by omega, by rw [hr0]; exact q⟩).imp fun v H5 e5 hv => ?_) fun x y H5 e5 hv => ?_
  · obtain ⟨p, l, t, as, rfl, h1, h2, h3, h4⟩ := hv
    exact ⟨p, _, _, rfl, st_of h1, l, as, rfl, h2, h3, h4⟩
  obtain ⟨l, as, rfl, hl5, hf5, ht5⟩ := hv
  have e35 := e4.trans e5
  have hasl : as.length = r.1.length := hf5.1
  refine q_asgR (er_snds (cs := cs) (fs := r.1) (ev_var rfl) hl5 hf5 (by omega) (fun _ _ => rfl) (fun _ _ => rfl)) fun v H6 e6 hv => ?_
  obtain ⟨pm, us, rfl, hpm, hmi⟩ := hv
  refine q_asg (v := .int 0) ev_c fun H7 e7 => ?_
  have e57 := e6.trans e7
  have e37 := e35.trans e57
  have hl7 := e57 _ _ hl5
  have hf7 := hf5.ex e57
  obtain ⟨En, hEn⟩ : ∃ En, endF 0 r.1 = En := ⟨_, rfl⟩
  refine q_forL (xs := as.map V.ref) (ev_var rfl) (sq_of hl7) (fun k σ' H' => ∃ x10 x11 : Option V, σ' = [some (.ref a), some (.int (i : Int)), some (.ref sa), some (.int (j : Int)), some (.ref pn), some (.byt d.toArray), some (.ref l), some y, some (.ref pm), some (.int ((endF 0 (r.1.take k) : Nat) : Int)), x10, x11, x12, x13] ∧ Ex H7 H') (fun H8 e8 => ⟨_, _, by rw [List.take_zero]; rfl, e8⟩) (fun k σ' H' _ p => ?_) (fun k x σ' H' hx p => ?_) fun σ' H' p => ?_
  · obtain ⟨_, _, _, e⟩ := p
    exact sq_of (e _ _ hl7)
  · obtain ⟨x10, x11, rfl, e8⟩ := p
    rw [List.getElem?_map] at hx
    obtain ⟨pa, hpa, rfl⟩ := Option.map_eq_some_iff.mp hx
    have hk : k < r.1.length := by
      have := (List.getElem?_eq_some_iff.mp hpa).1
      omega
    have hzk := List.getElem?_eq_getElem hk
    obtain ⟨z, hz0⟩ : ∃ z, r.1[k] = z := ⟨_, rfl⟩
    rw [hz0] at hzk
    obtain ⟨u, hu2, hmr⟩ := hf7.2 k pa z hpa hzk
    have hok := so.ok z (List.mem_of_getElem? hzk)
    have hsp := spots_at r.1 0 k z so.spots hzk
    have hbl := Mem.bytes_le hok
    refine ⟨pa, _, rfl, st_of (e8 _ _ hu2), rfl, _, _, rfl, _, _, rfl, rfl, ?_⟩
    refine q_when (b := false) (et_is (et_test (ev_op (ev_var rfl) (ev_var rfl) rv_neI)) (by rw [hsp]; simp)) (fun h => by cases h) fun _ H9 e9 => ?_
    refine s_asg (v := .int ((endF 0 (r.1.take (k + 1)) : Nat) : Int)) (ev_is (ev_op (ev_var rfl) (ev_op ev_c (ev_call (z := .int ((z.2.bytes.length / 512 : Nat) : Int)) (ea_cons (ev_var rfl) ea_nil) (Ret.sp fun H1 e Q E q => ⟨u, z.2, rfl, memR_sta cs _ _ _ _ ((e8.trans e9).trans e) hmr, hok, q⟩)) (rv_mulI (wide_mul (a := 20) (b := 20) (by decide) (by omega) (by decide) (by decide) (by decide)))) rv_addI) (iN ?_)) fun H10 e10 => ⟨_, _, rfl, (e8.trans e9).trans e10⟩
    rw [take_snoc hzk, endF_snoc]
    omega
  obtain ⟨x10', x11', rfl, e8⟩ := p
  rw [List.length_map, hasl, List.take_length, hEn]
  have e38 := e37.trans e8
  have ole := so.le
  have obyt := so.byt
  rw [hEn] at ole obyt
  have hms : (r.1.map Prod.snd).length = r.1.length := List.length_map _
  have hflen : (((r.1.map Prod.snd).map Mem.bytes).flatten).length = En := by rw [obyt, sub_len]; omega
  obtain ⟨wb, hwb⟩ : ∃ wb, writtenB (r.1.map Prod.snd) = wb := ⟨_, rfl⟩
  have hwl : wb.length = En + 1024 := by
    rw [← hwb]
    unfold writtenB
    rw [List.length_append, zs_len, hflen]
  have hwt : wb.take En = d.take En := by
    rw [← hwb]
    unfold writtenB
    rw [obyt]
    have h1 : (sub d 0 En).length = En := by rw [sub_len]; omega
    rw [List.take_append, h1, Nat.sub_self, List.take_zero, List.append_nil, List.take_of_length_le (by omega)]
    unfold sub
    rw [List.drop_zero, Nat.sub_zero]
  refine q_asg (v := .byt wb.toArray) (ev_call (ea_cons (ev_var rfl) ea_nil) (Ret.sp fun H1 e Q E q => ⟨pm, us, r.1.map Prod.snd, rfl, sq_of (e _ _ (e8 _ _ (e7 _ _ hpm))), hmi.ex ((e7.trans e8).trans e), fun m hm => ?_, by omega, by rw [hflen]; omega, by rw [hwb]; exact q⟩)) fun H9 e9 => ?_
  · obtain ⟨z, hz1, rfl⟩ := List.mem_map.mp hm
    exact so.ok z hz1
  have e39 := e38.trans e9
  refine q_when (b := false) (et_is (et_or (a := false) (b := false) (et_is (et_test (ev_op (ev_slY (m := wb.take En) (ev_var rfl) eo_none (eo_n (n := En) (ev_var rfl)) (by omega) sl_to) (ev_slY (m := d.take En) (ev_var rfl) eo_none (eo_n (n := En) (ev_var rfl)) hz sl_to) rv_neY)) (by rw [hwt]; simp)) fun _ => et_is (et_test (ev_op (ev_cb1 (ev_var rfl) (rc_lenY (by omega))) (ev_op (ev_var rfl) ev_c rv_addI) rv_neI)) (by rw [hwl]; simp)) rfl) (fun h => by cases h) fun _ H10 e10 => ?_
  have e310 := e39.trans e10
  obtain ⟨bo, hbo⟩ : ∃ bo, decide (sub d En (En + 1024) = zs 1024) = bo := ⟨_, rfl⟩
  refine q_asg (v := .bl bo) (ev_is (ev_eqLL (ns := (ns.drop En).take (En + 1024 - En)) (ms := List.replicate 1024 0) ?_ ?_) ?_) fun H11 e11 => ?_
  · have g := el_slV (K := K) (te := tVar 4) (tl := tPart (tVar 9)) (th := tPart (tOp rAddX (tVar 9) (tC (.int 1024)))) (σ := [some (.ref a), some (.int (i : Int)), some (.ref sa), some (.int (j : Int)), some (.ref pn), some (.byt d.toArray), some (.ref l), some y, some (.ref pm), some (.int (En : Int)), x10', x11', some (.byt wb.toArray), x13]) (ev_var rfl) (e310 _ _ hns) (eo_n (n := En) (ev_var rfl)) (eo_n (n := En + 1024) (ev_is (ev_op (ev_var rfl) ev_c rv_addI) (iN (by omega))))
    rw [cut_ints] at g
    exact g
  · have g := el_repL (σ := [some (.ref a), some (.int (i : Int)), some (.ref sa), some (.int (j : Int)), some (.ref pn), some (.byt d.toArray), some (.ref l), some y, some (.ref pm), some (.int (En : Int)), x10', x11', some (.byt wb.toArray), x13]) (H := H10) (ta := tLst (tCons (tC (.int 0)) tNil)) (tb := tC (.int 1024)) (xs := [.int 0]) (m := 1024) (el_lst (ea_cons ev_c ea_nil) (by simp)) ev_c (by decide) (by decide)
    rw [rep_one, show (1024 : Int).toNat = 1024 from rfl, ← List.map_replicate] at g
    exact g
  · rw [over_iff hby, ← hd, hbo]
  have e311 := e310.trans e11
  have hover := so.over
  have hbad := so.bad
  rw [hEn] at hover hbad
  have hyr : (r.2 = none ∧ y = .non ∧ bo = true) ∨ (∃ n q s xs, r.2 = some n ∧ y = .ref q ∧ SqT K H5 q (s :: .int (n : Int) :: xs) ∧ bo = false ∧ En ≤ n ∧ n ≤ En + 2048) := by
    cases hr2 : r.2 with
    | none =>
      rw [hr2] at ht5
      exact .inl ⟨rfl, ht5, by rw [← hbo]; exact decide_eq_true (hover hr2)⟩
    | some n =>
      rw [hr2] at ht5
      obtain ⟨q, s0, xs, h1, h2⟩ := ht5
      obtain ⟨b1, b2, b3⟩ := hbad n hr2
      exact .inr ⟨n, q, s0, xs, rfl, h1, h2, by rw [← hbo]; exact decide_eq_false b3, b1, b2⟩
  have e511 : Ex H5 H11 := (((e57.trans e8).trans e9).trans e10).trans e11
  refine q_when (b := false) (et_is (et_test (ev_op (ev_var rfl) (ev_op (ev_var rfl) ev_c rv_isN) (rv_neX rfl))) ?_) (fun h => by cases h) fun _ H12 e12 => ?_
  · rcases hyr with ⟨_, rfl, rfl⟩ | ⟨n, q, s0, xs, _, rfl, _, rfl, _⟩
    · rfl
    · rfl
  refine q_when (b := false) (et_is (et_and (a := bo) (b := false) (et_B (ev_var rfl)) fun hb => et_test (b := false) fun H1 e Q q => ?_) (Bool.and_false _)) (fun h => by cases h) fun _ H13 e13 => ?_
  · have hn : (scanOf d).2 = none := by
      rw [hr0]
      rcases hyr with ⟨h, _⟩ | ⟨_, _, _, _, _, _, _, h, _⟩
      · exact h
      · rw [h] at hb
        cases hb
    refine (er_call (R := MemsR cs (r.1.map Prod.snd)) (sp := spRead cs) (E := C8.E0) (dvs := []) (ea_cons (ev_var rfl) ea_nil) fun H2 e2 Q q E => ⟨d, rfl, by omega, hn, fun v H3 e3 hv => q v H3 e3 (by rw [hr0] at hv; exact hv)⟩) H1 e _ fun v H2 e2 hv => ?_
    obtain ⟨p2, us2, rfl, hp2, hmi2⟩ := hv
    refine ev_var (i := 8) (v := .ref pm) rfl H2 (Ex.refl _) _ fun H3 e3' => ?_
    have eall : Ex H6 H3 := (((((((e7.trans e8).trans e9).trans e10).trans e11).trans e12).trans e).trans e2).trans e3'
    have m1 := hmi.ex eall
    have m2 := hmi2.ex e3'
    exact ⟨⟨p2, pm, us2, us, rfl, rfl, e3' _ _ hp2, eall _ _ hpm, by rw [m1.1, m2.1], fun i x y hx hy => by
      have hi : i < (r.1.map Prod.snd).length := by
        have := (List.getElem?_eq_some_iff.mp hx).1
        rw [← m2.1]
        exact this
      have hm := List.getElem?_eq_getElem hi
      exact ⟨_, m2.2 i x _ hx hm, m1.2 i y _ hy hm⟩⟩, fun H' e' => q H' ((e2.trans e3').trans e')⟩
  refine s_when (b := false) (et_is (et_and (a := !decide (y = .non)) (b := false) (et_test (ev_op (ev_var rfl) ev_c rv_notN)) fun ha => ?_) (Bool.and_false _)) (fun h => by cases h) fun _ H14 e14 => hnx (((e311.trans e12).trans e13).trans e14)
  rcases hyr with ⟨_, rfl, _⟩ | ⟨n, q0, s0, xs, _, rfl, hq, _, b1, b2⟩
  · exact absurd ha (by decide)
  · refine et_is (et_not (et_test (ev_chain (a := decide ((En : Int) ≤ (n : Int))) (b := decide ((n : Int) ≤ (En : Int) + 2048)) (ev_var rfl) (ev_ixT (v := .int (n : Int)) (ev_var rfl) ev_c (ex_t ((e511.trans e12).trans e13) hq) (atI_nat (show (s0 :: V.int (n : Int) :: xs)[1]? = some (V.int n) from rfl))) rv_le fun _ => ⟨_, ev_op (ev_var rfl) ev_c rv_addI, rv_le⟩))) ?_
    rw [decide_eq_true (by omega : (En : Int) ≤ (n : Int)), decide_eq_true (by omega : (n : Int) ≤ (En : Int) + 2048)]
    rfl
end
end Tar

/-! TaW5 -/
set_option Elab.async false
set_option linter.all false
set_option maxRecDepth 100000
set_option maxHeartbeats 4000000
/-! what the head's facts give -/
namespace TarH
open PySem PySem.Spec PyProof.Rows L2 He Tar
theorem numB_ok {K : PySem.W.Frag} {a : Addr} (h : numB K a = true) : NumT K a := by
  obtain ⟨h0, h⟩ := ba h
  obtain ⟨h1, h⟩ := ba h
  obtain ⟨h2, h⟩ := ba h
  obtain ⟨h3, h⟩ := ba h
  obtain ⟨h4, h5⟩ := ba h
  exact ⟨_, _, _, _, _, fun H => ⟨tupA_ok h0 H, tupA_ok h1 H, tupA_ok h2 H, tupA_ok h3 H, tupA_ok h4 H, tupA_ok h5 H⟩⟩
theorem allAt {α : Type} {l : List α} {p : α → Bool} (h : l.all p = true) (i : Nat) {x : α} (e : l[i]? = some x := by rfl) : p x = true := List.all_eq_true.mp h x (List.mem_of_getElem? e)
/-- the classes' addresses -/
def csM (K : PySem.W.Frag) : Cs := ⟨ga K "File", ga K "Sparse", ga K "Directory", ga K "Symlink", ga K "Link"⟩
structure Sa (K : PySem.W.Frag) (w : World) : Prop where
  d : SaysD [] fn K
  cl : cls5.map (fun d => clW K d.x) = cls5.map ClD.val
  tL : dicW K (ga K "LETTERS_OF") = some (keysIn w.params kLOk)
  tS : dicW K (ga K "SIZES") = some (keysIn w.params kSZk)
  ex : exB K = true
theorem sa_of {K : PySem.W.Frag} {w : World} (c : obsM K = valM w) : Sa K w := by
  have h1 : obsD [] fn K = valD fn := congrArg (fun z : AlM => z.1) c
  have h2 : cls5.map (fun d => clW K d.x) = cls5.map ClD.val := congrArg (fun z : AlM => z.2.1) c
  have h3 : [dicW K (ga K "LETTERS_OF"), dicW K (ga K "SIZES")] = [some (keysIn w.params kLOk), some (keysIn w.params kSZk)] := congrArg (fun z : AlM => z.2.2.1) c
  have h4 : exB K = true := congrArg (fun z : AlM => z.2.2.2) c
  injection h3 with h5 h6
  injection h6 with h7 h8
  exact ⟨h1, h2, h5, h7, h4⟩
structure Exs (K : PySem.W.Frag) : Prop where
  glo : (glo.all fun x => (Fa.glo x).ok K) = true
  fre : (fre.all fun x => (Fa.free x).ok K) = true
  int : (conI.all fun p => (Fa.int p.1 p.2).ok K) = true
  str : (conS.all fun p => (Fa.str p.1 p.2).ok K) = true
  cls : (cls5.all fun d => clB K d) = true
  one : oneB K = true
  num : numB K (ga K "NUMBERS") = true
  let_ : valsB K (ga K "LETTERS_OF") letK = true
  siz : sizB K (ga K "SIZES") = true
theorem exs_of {K : PySem.W.Frag} (h : exB K = true) : Exs K := by
  obtain ⟨h1, h⟩ := ba h
  obtain ⟨h2, h⟩ := ba h
  obtain ⟨h3, h⟩ := ba h
  obtain ⟨h4, h⟩ := ba h
  obtain ⟨h5, h⟩ := ba h
  obtain ⟨h6, h⟩ := ba h
  obtain ⟨h7, h⟩ := ba h
  obtain ⟨h8, h9⟩ := ba h
  exact ⟨h1, h2, h3, h4, h5, h6, h7, h8, h9⟩
section
variable {K : PySem.W.Frag} {h : Heap} {mg : Str → Option Value} {w : World}
theorem gf_of (X : K.In h) (G : h.Ns mainGlobals mg) (e : Exs K) : GF K mg := by
  have fr : ∀ (i : Nat) {x : Str}, fre[i]? = some x → mg x = none := fun i {x} hi => free_ok X G (allAt e.fre i hi)
  have it : ∀ (i : Nat) {x : Str} {z : Int}, conI[i]? = some (x, z) → GV mg x (.int z) := fun i {x z} hi => by
    obtain ⟨t, ht⟩ := int_ok X G (allAt e.int i hi)
    exact ⟨_, ht, t, rfl⟩
  have st : ∀ (i : Nat) {x z : Str}, conS[i]? = some (x, z) → GV mg x (.str z) := fun i {x z} hi => by
    obtain ⟨t, ht⟩ := str_ok X G (allAt e.str i hi)
    exact ⟨_, ht, t, rfl⟩
  exact ⟨⟨fr 0 rfl, fr 1 rfl, fr 2 rfl, fr 3 rfl, fr 4 rfl, fr 5 rfl, fr 6 rfl, fr 7 rfl, fr 8 rfl, fr 9 rfl, fr 10 rfl, fr 11 rfl, fr 12 rfl, fr 13 rfl, fr 14 rfl, fr 15 rfl, fr 16 rfl⟩,
    st 0 rfl, it 0 rfl, it 1 rfl, it 2 rfl, it 3 rfl, it 4 rfl, it 5 rfl, it 6 rfl, st 1 rfl, st 2 rfl, st 3 rfl, it 7 rfl⟩
/-! ### a class -/
structure ClF (K : PySem.W.Frag) (d : ClD) : Prop where
  cls : (Fa.cls d.x).ok K = true
  con : conB K d.x "KIND" (.str d.kind) = true
  na : (nats.all fun f => (Fa.noat d.x f).ok K) = true
  mkr : (Fa.mkr d.x).ok K = true
  sup : supB K d = true
  isc : (PySem.W.clsIn K (ga K d.x)).isSome = true
  sub : PySem.W.mroIn K (ga K d.x) (.ref (ga K d.x)) = some true
  spr : PySem.W.ks_superIn K (ga K d.x) (ga K d.x) "__init__" = some (some (.ref (memIni K)))
  ccl : PySem.W.findIn K (.ref (ga K d.x)) "__class__" = some (some (.builtin "object.__class__"))
  mro : PySem.W.mroIn K (ga K d.x) (.type "object") = some true
  kit : PySem.W.kitOne K (.ref (ga K d.x)) (.ref (ga K "Member")) = some true
  eq_ : PySem.W.findIn K (.ref (ga K d.x)) "__eq__" = some (some (.ref (memEq K)))
theorem clF_of {d : ClD} (h : clB K d = true) : ClF K d := by
  obtain ⟨h1, h⟩ := ba h
  obtain ⟨h2, h⟩ := ba h
  obtain ⟨h3, h⟩ := ba h
  obtain ⟨h4, h⟩ := ba h
  obtain ⟨h5, h⟩ := ba h
  obtain ⟨h6, h⟩ := ba h
  obtain ⟨h7, h⟩ := ba h
  obtain ⟨h8, h⟩ := ba h
  obtain ⟨h9, h⟩ := ba h
  obtain ⟨h10, h⟩ := ba h
  obtain ⟨h11, h12⟩ := ba h
  exact ⟨h1, h2, h3, h4, h5, h6, of_decide_eq_true h7, eqO_ok h8, eqO_ok h9, of_decide_eq_true h10, of_decide_eq_true h11, eqO_ok h12⟩
theorem mcls_of {d : ClD} {t : List Nat} (c : ClF K d) (hk : d.kind = SX.S t) : MCls K (ga K d.x) t := by
  refine ⟨cls_ok c.cls, ?_, fun f hf => ?_⟩
  · obtain ⟨u, hu⟩ := conB_ok c.con (by decide)
    rw [hk] at hu
    exact ⟨u, hu⟩
  · exact noat_ok (List.all_eq_true.mp c.na f hf)
structure OneF (K : PySem.W.Frag) : Prop where
  ty : PySem.W.typeIn K (.ref (memIni K)) = some (.type "function")
  opq : PySem.W.nsIn K cStatics "thirdparty.any" = some none
  fn2 : PySem.W.fnIn K (memIni K) = true
  hn : PySem.W.specialIn K (.builtin "object.__class__") "__get__" = some (some (.builtin "getset_descriptor.__get__"))
  htk : PySem.W.takesIn K (.builtin "object.__class__") = some true
  fne : PySem.W.isFn K (.ref (memEq K)) = true
theorem oneF_of (h : oneB K = true) : OneF K := by
  obtain ⟨h1, h⟩ := ba h
  obtain ⟨h2, h⟩ := ba h
  obtain ⟨h3, h⟩ := ba h
  obtain ⟨h4, h⟩ := ba h
  obtain ⟨h5, h6⟩ := ba h
  exact ⟨of_decide_eq_true h1, eqO_ok h2, h3, eqO_ok h4, of_decide_eq_true h5, h6⟩
theorem cod_of {cd : Value} (h : codB K cd = true) : ∃ cda, cd = .ref cda ∧ ∃ ccl cdd vs ccs file tf, K.lookup cda = some ⟨ccl, cdd, .fields vs, ccs⟩ ∧ vs[2]? = some (.str file tf) ∧ ((R.prog.main.file : Str) == file) = true := by
  unfold codB at h
  cases cd with
  | ref a =>
    refine ⟨a, rfl, ?_⟩
    dsimp only at h
    cases q : K.lookup a with
    | none => rw [q] at h; cases h
    | some o =>
      obtain ⟨oc, od, dt, osl⟩ := o
      rw [q] at h
      cases dt with
      | fields vs =>
        dsimp only at h
        cases q2 : (vs[2]? : Option Value) with
        | none => rw [q2] at h; cases h
        | some v =>
          rw [q2] at h
          cases v with
          | str f t => exact ⟨oc, od, vs, osl, f, t, rfl, q2, by
              have this : (R.prog.main.file : Str) = f := of_decide_eq_true h
              rw [this]
              exact beq_self_eq_true _⟩
          | _ => cases h
      | _ => cases h
  | _ => cases h
theorem cel_of {c C : Addr} (h : celB K c C = true) : ∃ cl cld csl, K.lookup c = some ⟨cl, cld, .cell (some (.ref C)), csl⟩ := by
  unfold celB at h
  cases q : K.lookup c with
  | none => rw [q] at h; cases h
  | some o =>
    obtain ⟨oc, od, dt, osl⟩ := o
    rw [q] at h
    cases dt with
    | cell v =>
      cases v with
      | none => cases h
      | some v =>
        cases v with
        | ref D =>
          have e : D = C := of_decide_eq_true h
          rw [e]
          exact ⟨oc, od, osl, rfl⟩
        | _ => cases h
    | _ => cases h
/-- the __init__ of a class -/
theorem cd_of {d : ClD} {ar : Arg} (hw : clW K d.x = d.val) (c : ClF K d) (o : OneF K) (hself : ((defArgs d.st).posonlyargs ++ (defArgs d.st).args).head? = some ar) (har : ar.arg = "self") (htop : (R.prog.main.scope.names.lookup ("super" : Str)).isSome = false) : CD R.prog K d.q d.st d.kws (iniAt K d.x) (ga K d.x) (memIni K) := by
  have hs := c.sup
  unfold clW at hw
  unfold supB at hs
  cases q : K.lookup (iniAt K d.x) with
  | none => rw [q] at hs; cases hs
  | some ob =>
    obtain ⟨oc, od, dt, osl⟩ := ob
    rw [q] at hs hw
    cases dt with
    | func fd =>
      obtain ⟨n1, n2, n3, n4, n5, n6, n7, n8, n9, n10, n11, n12, n13, n14, n15⟩ := fd
      have e2 : (some (n1, n2, n3, n4, n5, n6, n7.map (·.1), n8, n15) : ClV) = (some ("__init__", d.q, defArgs d.st, .stmts (defBody d.st), defScope d.st, mainGlobals, ["__class__"], .none, builtinsNs) : ClV) := hw
      simp only [Option.some.injEq, Prod.mk.injEq] at e2
      obtain ⟨h1, h2, h3, h4, h5, h6, h7, h8, h9⟩ := e2
      subst h1 h2 h3 h4 h5 h6 h8 h9
      obtain ⟨cc, rfl⟩ : ∃ cc : Addr, n7 = [(("__class__" : Str), cc)] := by
        match n7, h7 with
        | [(a, b)], h7 =>
          have : a = ("__class__" : Str) := (List.cons.inj h7).1
          exact ⟨b, by rw [this]⟩
        | [], h7 => cases h7
        | _ :: _ :: _, h7 => cases (List.cons.inj h7).2
      have hs2 : (PySem.W.codeIn K n13 d.q && (kwdB K n9 d.kws && (codB K n13 && ([cc].all fun c => celB K c (ga K d.x))))) = true := hs
      obtain ⟨s1, hs2⟩ := ba hs2
      obtain ⟨s2, hs2⟩ := ba hs2
      obtain ⟨s3, s4⟩ := ba hs2
      obtain ⟨cda, rfl, hcode⟩ := cod_of s3
      have s5 : celB K cc (ga K d.x) = true := List.all_eq_true.mp s4 cc (List.mem_singleton.mpr rfl)
      refine ⟨⟨cc, cda, oc, od, n9, n10, n11, n12, n14, osl, q, s1, kwdB_ok s2, ⟨⟨oc, od, _, osl, ar, q, hself, har⟩, hcode, cel_of s5, Option.isSome_iff_exists.mp c.isc, c.sub, c.spr, o.ty, o.opq, o.fn2, htop⟩⟩, mkr_ok c.mkr⟩
    | _ => cases hs
/-! ### the tables -/
theorem let_of (t : dicW K (ga K "LETTERS_OF") = some (keysIn w.params kLOk)) (v : valsB K (ga K "LETTERS_OF") letK = true) : LetT K w (ga K "LETTERS_OF") := by
  obtain ⟨es, n, D⟩ := dicW_ok t
  refine ⟨fun m => ?_⟩
  have key : ∀ (i : Nat) {x : Str} {z : Dv}, letK[i]? = some (x, z) → KDct K w (ga K "LETTERS_OF") x (z.v K) := fun i {x z} hi => by
    obtain ⟨u, h1, h2⟩ := valsB_ok v (List.mem_of_getElem? hi)
    exact ⟨es, n, u, D.at_, D.lit, h1, h2⟩
  cases m with
  | file => exact key 0 rfl
  | sparse => exact key 1 rfl
  | dir => exact key 2 rfl
  | sym => exact key 3 rfl
  | link => exact key 4 rfl
theorem siz_of (t : dicW K (ga K "SIZES") = some (keysIn w.params kSZk)) (v : sizB K (ga K "SIZES") = true) : SizT K w (ga K "SIZES") := by
  obtain ⟨es, n, D⟩ := dicW_ok t
  obtain ⟨v1, v⟩ := ba v
  obtain ⟨v2, v⟩ := ba v
  obtain ⟨v3, v⟩ := ba v
  obtain ⟨v4, v⟩ := ba v
  obtain ⟨v5, v⟩ := ba v
  obtain ⟨v6, v⟩ := ba v
  obtain ⟨v7, v8⟩ := ba v
  have get : ∀ {x : Str}, PySem.W.nsIn K (ga K "SIZES") x = some (some (.ref (valAt K (ga K "SIZES") x))) → KGet K w (ga K "SIZES") x (some (.ref (valAt K (ga K "SIZES") x))) := fun {x} h => ⟨es, n, _, D.at_, D.lit, D.low, h, rfl⟩
  refine ⟨⟨es, n, D.at_⟩, fun s hs n1 n2 n3 n4 => ⟨es, n, none, D.at_, D.lit, D.low, dicW_not t ?_, True.intro⟩, _, _, _, _, fun H => ⟨tupA_ok v5 H, tupA_ok v6 H, tupA_ok v7 H, tupA_ok v8 H⟩, get (eqO_ok v1), get (eqO_ok v2), get (eqO_ok v3), get (eqO_ok v4)⟩
  intro hm
  simp only [kSZk, List.mem_cons, List.not_mem_nil, or_false] at hm
  rcases hm with h | h | h | h
  · exact n1 (SX.S_inj h)
  · exact n2 (SX.S_inj h)
  · exact n3 (SX.S_inj h)
  · exact n4 (SX.S_inj h)
end
end TarH

/-! TaW6 -/
set_option Elab.async false
set_option linter.all false
set_option maxRecDepth 100000
set_option maxHeartbeats 4000000
/-! from the head's facts to the law's promise -/
namespace TarH
open PySem PySem.Spec PyProof.Rows L2 He Tar
theorem top_super : (R.prog.main.scope.names.lookup ("super" : Str)).isSome = false := by kernel_rfl
theorem clw_at {K : PySem.W.Frag} {w : World} (s : Sa K w) (i : Nat) {d : ClD} (h : cls5[i]? = some d := by rfl) : clW K d.x = d.val := by
  have e2 : (cls5.map fun d => clW K d.x)[i]? = (cls5.map ClD.val)[i]? := by rw [s.cl]
  rw [List.getElem?_map, List.getElem?_map, h] at e2
  exact Option.some.inj e2
theorem facts {K : PySem.W.Frag} {h : Heap} {mg : Str → Option Value} {w : World} {f : Addr} (X : K.In h) (G : h.Ns mainGlobals mg) (hfa : mg ("law" : Str) = some (.ref f)) (hc : obsM K = valM w) :
    ∃ fd : FuncData, (∀ (s : Shared) (v : Value), BindsTo s fd ⟨[v], []⟩ [("_law_script", v)]) ∧ ∀ base : Heap, K.In base → base.Ns mainGlobals mg → FnOk R.prog w K mg base C8.CX0 11 f fd ["_law_script"] (spLaw K) := by
  have s := sa_of hc
  have e := exs_of s.ex
  have g := gf_of X G e
  have gl : ∀ (i : Nat) {x : Str}, glo[i]? = some x → mg x = some (.ref (ga K x)) := fun i {x} hi => glo_ok X G (allAt e.glo i hi)
  obtain ⟨fd, F⟩ := s.d.def_ 66 (d := dD "law" 106) rfl
  have eL := hfa.symm.trans (gl 66 (x := "law") rfl)
  cases eL
  have bL := FunD.bindsA (ps := ["_law_script"]) F fun _ _ _ _ _ _ us hl => match us, hl with | [_], _ => rfl
  refine ⟨fd, fun s v => bL s [v] rfl, fun base _ _ => ?_⟩
  have one := oneF_of e.one
  have f_File := clF_of (allAt e.cls 0 rfl)
  have f_Sparse := clF_of (allAt e.cls 1 rfl)
  have f_Directory := clF_of (allAt e.cls 2 rfl)
  have f_Symlink := clF_of (allAt e.cls 3 rfl)
  have f_Link := clF_of (allAt e.cls 4 rfl)
  have m_File : MCls K (csM K).file tFile := mcls_of f_File rfl
  have cd_File : CD R.prog K "File.__init__" (inClass (topS 33) 1) [("mode", .int 420), ("time", .int 0)] (iniAt K "File") (csM K).file (memIni K) := cd_of (clw_at s 0 rfl) f_File one rfl rfl top_super
  have m_Sparse : MCls K (csM K).sparse tSparse := mcls_of f_Sparse rfl
  have cd_Sparse : CD R.prog K "Sparse.__init__" (inClass (topS 34) 1) [("mode", .int 420), ("time", .int 0)] (iniAt K "Sparse") (csM K).sparse (memIni K) := cd_of (clw_at s 1 rfl) f_Sparse one rfl rfl top_super
  have m_Directory : MCls K (csM K).dir tDir := mcls_of f_Directory rfl
  have cd_Directory : CD R.prog K "Directory.__init__" (inClass (topS 35) 1) [("mode", .int 493), ("time", .int 0)] (iniAt K "Directory") (csM K).dir (memIni K) := cd_of (clw_at s 2 rfl) f_Directory one rfl rfl top_super
  have m_Symlink : MCls K (csM K).sym tSym := mcls_of f_Symlink rfl
  have cd_Symlink : CD R.prog K "Symlink.__init__" (inClass (topS 36) 1) [("mode", .int 511), ("time", .int 0)] (iniAt K "Symlink") (csM K).sym (memIni K) := cd_of (clw_at s 3 rfl) f_Symlink one rfl rfl top_super
  have m_Link : MCls K (csM K).link tLink := mcls_of f_Link rfl
  have cd_Link : CD R.prog K "Link.__init__" (inClass (topS 37) 1) [("mode", .int 420), ("time", .int 0)] (iniAt K "Link") (csM K).link (memIni K) := cd_of (clw_at s 4 rfl) f_Link one rfl rfl top_super
  have cF : CF K (csM K) := ⟨m_File, m_Sparse, m_Directory, m_Symlink, m_Link⟩
  have EK : EqK K (csM K) (ga K "Member") (memEq K) := ⟨one.hn, one.htk, one.fne, fun m => by
    cases m with
    | file => exact ⟨f_File.ccl, f_File.mro, f_File.kit, f_File.eq_⟩
    | sparse => exact ⟨f_Sparse.ccl, f_Sparse.mro, f_Sparse.kit, f_Sparse.eq_⟩
    | dir => exact ⟨f_Directory.ccl, f_Directory.mro, f_Directory.kit, f_Directory.eq_⟩
    | sym => exact ⟨f_Symlink.ccl, f_Symlink.mro, f_Symlink.kit, f_Symlink.eq_⟩
    | link => exact ⟨f_Link.ccl, f_Link.mro, f_Link.kit, f_Link.eq_⟩⟩
  have hNumT : NumT K (ga K "NUMBERS") := numB_ok e.num
  have hLetT : LetT K w (ga K "LETTERS_OF") := let_of s.tL e.let_
  have hSizT : SizT K w (ga K "SIZES") := siz_of s.tS e.siz
  obtain ⟨fi, Fi⟩ := s.d.def_ 67 (d := dM "Member" "__init__" "Member.__init__" 1) rfl
  have f2 : FnR R.prog w K mg base C8.CX0 1 (memIni K) (spMember K) := ok_member Fi
  obtain ⟨fde, Feq, beq⟩ := ok_MemEq (P := R.prog) (w := w) (base := base) g cF ⟨_, gl 67 rfl, rfl⟩ EK (s.d.def_ 68 (d := dM "Member" "__eq__" "Member.__eq__" 2) rfl)
  have d_is_integer : D0 K mg "is_integer" (topS 13) := ⟨_, _, (s.d.def_ 0 rfl).choose_spec, gl 0 rfl⟩
  have d_is_within : D0 K mg "is_within" (topS 14) := ⟨_, _, (s.d.def_ 1 rfl).choose_spec, gl 1 rfl⟩
  have d_is_name : D0 K mg "is_name" (topS 25) := ⟨_, _, (s.d.def_ 4 rfl).choose_spec, gl 4 rfl⟩
  have d_map_block : D0 K mg "map_block" (topS 68) := ⟨_, _, (s.d.def_ 30 rfl).choose_spec, gl 30 rfl⟩
  have d_target_text : D0 K mg "target_text" (topS 71) := ⟨_, _, (s.d.def_ 33 rfl).choose_spec, gl 33 rfl⟩
  have d_stored : D0 K mg "stored" (topS 69) := ⟨_, _, (s.d.def_ 31 rfl).choose_spec, gl 31 rfl⟩
  have d_long_part : D0 K mg "long_part" (topS 70) := ⟨_, _, (s.d.def_ 32 rfl).choose_spec, gl 32 rfl⟩
  have d_bytes_of : D0 K mg "bytes_of" (topS 72) := ⟨_, _, (s.d.def_ 34 rfl).choose_spec, gl 34 rfl⟩
  have d_blocks_of : D0 K mg "blocks_of" (topS 73) := ⟨_, _, (s.d.def_ 35 rfl).choose_spec, gl 35 rfl⟩
  have d_written : D0 K mg "written" (topS 74) := ⟨_, _, (s.d.def_ 36 rfl).choose_spec, gl 36 rfl⟩
  have d_whole_numbers : D0 K mg "whole_numbers" (topS 78) := ⟨_, _, (s.d.def_ 39 rfl).choose_spec, gl 39 rfl⟩
  have d_spans_of : D0 K mg "spans_of" (topS 79) := ⟨_, _, (s.d.def_ 40 rfl).choose_spec, gl 40 rfl⟩
  have d_sparse : D0 K mg "sparse" (topS 80) := ⟨_, _, (s.d.def_ 41 rfl).choose_spec, gl 41 rfl⟩
  have d_at_header : D0 K mg "at_header" (topS 81) := ⟨_, _, (s.d.def_ 42 rfl).choose_spec, gl 42 rfl⟩
  have d_look_at : D0 K mg "look_at" (topS 82) := ⟨_, _, (s.d.def_ 43 rfl).choose_spec, gl 43 rfl⟩
  have d_scan : D0K K mg "scan" (topS 83) kwScan := ⟨_, _, (s.d.def_ 44 rfl).choose_spec, gl 44 rfl⟩
  have d_is_short : D0 K mg "is_short" (topS 26) := ⟨_, _, (s.d.def_ 5 rfl).choose_spec, gl 5 rfl⟩
  have d_look_data : D0 K mg "look_data" (topS 16) := ⟨_, _, (s.d.def_ 3 rfl).choose_spec, gl 3 rfl⟩
  have d_look_name : D0 K mg "look_name" (topS 27) := ⟨_, _, (s.d.def_ 6 rfl).choose_spec, gl 6 rfl⟩
  have d_look_stamps : D0 K mg "look_stamps" (topS 28) := ⟨_, _, (s.d.def_ 7 rfl).choose_spec, gl 7 rfl⟩
  have d_text_field : D0 K mg "text_field" (topS 46) := ⟨_, _, (s.d.def_ 11 rfl).choose_spec, gl 11 rfl⟩
  have d_octal_field : D0 K mg "octal_field" (topS 47) := ⟨_, _, (s.d.def_ 12 rfl).choose_spec, gl 12 rfl⟩
  have d_complain : D0 K mg "complain" (topS 84) := ⟨_, _, (s.d.def_ 45 rfl).choose_spec, gl 45 rfl⟩
  have d_read : D0 K mg "read" (topS 85) := ⟨_, _, (s.d.def_ 46 rfl).choose_spec, gl 46 rfl⟩
  have d_blob : D0 K mg "blob" (topS 15) := ⟨_, _, (s.d.def_ 2 rfl).choose_spec, gl 2 rfl⟩
  have d_sum_of : D0 K mg "sum_of" (topS 48) := ⟨_, _, (s.d.def_ 13 rfl).choose_spec, gl 13 rfl⟩
  have d_checksum_field : D0 K mg "checksum_field" (topS 49) := ⟨_, _, (s.d.def_ 14 rfl).choose_spec, gl 14 rfl⟩
  have d_magic_field : D0 K mg "magic_field" (topS 50) := ⟨_, _, (s.d.def_ 15 rfl).choose_spec, gl 15 rfl⟩
  have d_text_of : D0 K mg "text_of" (topS 52) := ⟨_, _, (s.d.def_ 17 rfl).choose_spec, gl 17 rfl⟩
  have d_number_of : D0 K mg "number_of" (topS 53) := ⟨_, _, (s.d.def_ 18 rfl).choose_spec, gl 18 rfl⟩
  have d_kind_of : D0 K mg "kind_of" (topS 55) := ⟨_, _, (s.d.def_ 20 rfl).choose_spec, gl 20 rfl⟩
  have d_name_of : D0 K mg "name_of" (topS 56) := ⟨_, _, (s.d.def_ 21 rfl).choose_spec, gl 21 rfl⟩
  have d_target_of : D0 K mg "target_of" (topS 57) := ⟨_, _, (s.d.def_ 22 rfl).choose_spec, gl 22 rfl⟩
  have d_is_text_of : D0 K mg "is_text_of" (topS 63) := ⟨_, _, (s.d.def_ 28 rfl).choose_spec, gl 28 rfl⟩
  have d_padded : D0 K mg "padded" (topS 67) := ⟨_, _, (s.d.def_ 29 rfl).choose_spec, gl 29 rfl⟩
  have d_header : D0K K mg "header" (topS 51) kwHeader := ⟨_, _, (s.d.def_ 16 rfl).choose_spec, gl 16 rfl⟩
  have d_numbers_of : D0 K mg "numbers_of" (topS 54) := ⟨_, _, (s.d.def_ 19 rfl).choose_spec, gl 19 rfl⟩
  have d_is_name_right : D0 K mg "is_name_right" (topS 58) := ⟨_, _, (s.d.def_ 23 rfl).choose_spec, gl 23 rfl⟩
  have d_wrong_number : D0 K mg "wrong_number" (topS 59) := ⟨_, _, (s.d.def_ 24 rfl).choose_spec, gl 24 rfl⟩
  have d_is_kind_right : D0 K mg "is_kind_right" (topS 60) := ⟨_, _, (s.d.def_ 25 rfl).choose_spec, gl 25 rfl⟩
  have d_is_target_right : D0 K mg "is_target_right" (topS 61) := ⟨_, _, (s.d.def_ 26 rfl).choose_spec, gl 26 rfl⟩
  have d_wrong_field : D0 K mg "wrong_field" (topS 62) := ⟨_, _, (s.d.def_ 27 rfl).choose_spec, gl 27 rfl⟩
  have d_wrong : D0 K mg "wrong" (topS 76) := ⟨_, _, (s.d.def_ 37 rfl).choose_spec, gl 37 rfl⟩
  have d_torn : D0 K mg "torn" (topS 77) := ⟨_, _, (s.d.def_ 38 rfl).choose_spec, gl 38 rfl⟩
  have d_are_spans : D0 K mg "are_spans" (topS 30) := ⟨_, _, (s.d.def_ 9 rfl).choose_spec, gl 9 rfl⟩
  have d_is_piece : D0 K mg "is_piece" (topS 29) := ⟨_, _, (s.d.def_ 8 rfl).choose_spec, gl 8 rfl⟩
  have d_are_pieces : D0 K mg "are_pieces" (topS 31) := ⟨_, _, (s.d.def_ 10 rfl).choose_spec, gl 10 rfl⟩
  have d__law_draw : D0 K mg "_law_draw" (topS 88) := ⟨_, _, (s.d.def_ 48 rfl).choose_spec, gl 48 rfl⟩
  have d__law_bytes : D0 K mg "_law_bytes" (topS 103) := ⟨_, _, (s.d.def_ 63 rfl).choose_spec, gl 63 rfl⟩
  have d__law_archive : D0 K mg "_law_archive" (topS 104) := ⟨_, _, (s.d.def_ 64 rfl).choose_spec, gl 64 rfl⟩
  have d__law_random_data : D0 K mg "_law_random_data" (topS 105) := ⟨_, _, (s.d.def_ 65 rfl).choose_spec, gl 65 rfl⟩
  have d__law_source : D0 K mg "_law_source" (topS 87) := ⟨_, _, (s.d.def_ 47 rfl).choose_spec, gl 47 rfl⟩
  have d__law_random_name : D0 K mg "_law_random_name" (topS 89) := ⟨_, _, (s.d.def_ 49 rfl).choose_spec, gl 49 rfl⟩
  have d__law_any_name : D0 K mg "_law_any_name" (topS 90) := ⟨_, _, (s.d.def_ 50 rfl).choose_spec, gl 50 rfl⟩
  have d__law_random_size : D0 K mg "_law_random_size" (topS 92) := ⟨_, _, (s.d.def_ 52 rfl).choose_spec, gl 52 rfl⟩
  have d__law_stamps : D0 K mg "_law_stamps" (topS 93) := ⟨_, _, (s.d.def_ 53 rfl).choose_spec, gl 53 rfl⟩
  have d__law_random_numbers : D0 K mg "_law_random_numbers" (topS 91) := ⟨_, _, (s.d.def_ 51 rfl).choose_spec, gl 51 rfl⟩
  have d__law_random_spans : D0 K mg "_law_random_spans" (topS 94) := ⟨_, _, (s.d.def_ 54 rfl).choose_spec, gl 54 rfl⟩
  have d__law_random_member : D0 K mg "_law_random_member" (topS 95) := ⟨_, _, (s.d.def_ 55 rfl).choose_spec, gl 55 rfl⟩
  have d__law_random_list : D0 K mg "_law_random_list" (topS 96) := ⟨_, _, (s.d.def_ 56 rfl).choose_spec, gl 56 rfl⟩
  have d__law_codes : D0 K mg "_law_codes" (topS 97) := ⟨_, _, (s.d.def_ 57 rfl).choose_spec, gl 57 rfl⟩
  have d__law_octal : D0 K mg "_law_octal" (topS 98) := ⟨_, _, (s.d.def_ 58 rfl).choose_spec, gl 58 rfl⟩
  have d__law_filled : D0 K mg "_law_filled" (topS 100) := ⟨_, _, (s.d.def_ 60 rfl).choose_spec, gl 60 rfl⟩
  have d__law_head : D0 K mg "_law_head" (topS 99) := ⟨_, _, (s.d.def_ 59 rfl).choose_spec, gl 59 rfl⟩
  have d__law_long : D0 K mg "_law_long" (topS 102) := ⟨_, _, (s.d.def_ 62 rfl).choose_spec, gl 62 rfl⟩
  have d__law_stored : D0 K mg "_law_stored" (topS 101) := ⟨_, _, (s.d.def_ 61 rfl).choose_spec, gl 61 rfl⟩
  have c_is_integer := ok_is_integer (P := R.prog) (w := w) (base := base) g d_is_integer
  have c_is_within := ok_is_within (P := R.prog) (w := w) (base := base) g d_is_within c_is_integer
  have c_is_name := ok_is_name (P := R.prog) (w := w) (base := base) g d_is_name
  have c_target_text := ok_target_text (P := R.prog) (w := w) (base := base) (cs := csM K) g d_target_text cF
  have c_is_short := ok_is_short (P := R.prog) (w := w) (base := base) g d_is_short
  have c_look_data := ok_look_data (P := R.prog) (w := w) (base := base) g d_look_data
  have c_look_name := ok_look_name (P := R.prog) (w := w) (base := base) g d_look_name c_is_name
  have c_look_stamps := ok_look_stamps (P := R.prog) (w := w) (base := base) g d_look_stamps c_is_within
  have c_text_field := ok_text_field (P := R.prog) (w := w) (base := base) g d_text_field
  have c_octal_field := ok_octal_field (P := R.prog) (w := w) (base := base) g d_octal_field
  have c_complain := ok_complain (P := R.prog) (w := w) (base := base) g d_complain
  have c_blob := ok_blob (P := R.prog) (w := w) (base := base) g d_blob c_is_within
  have c_sum_of := ok_sum_of (P := R.prog) (w := w) (base := base) g d_sum_of
  have c_checksum_field := ok_checksum_field (P := R.prog) (w := w) (base := base) g d_checksum_field c_octal_field c_sum_of
  have c_magic_field := ok_magic_field (P := R.prog) (w := w) (base := base) g d_magic_field
  have c_text_of := ok_text_of (P := R.prog) (w := w) (base := base) g d_text_of
  have c_number_of := ok_number_of (P := R.prog) (w := w) (base := base) g d_number_of c_text_of
  have c_kind_of := ok_kind_of (P := R.prog) (w := w) (base := base) g d_kind_of c_text_of
  have c_name_of := ok_name_of (P := R.prog) (w := w) (base := base) g d_name_of c_text_of
  have c_target_of := ok_target_of (P := R.prog) (w := w) (base := base) g d_target_of c_text_of
  have c_is_text_of := ok_is_text_of (P := R.prog) (w := w) (base := base) g d_is_text_of
  have c_padded := ok_padded (P := R.prog) (w := w) (base := base) g d_padded
  have c_header1 := ok_header1 (P := R.prog) (w := w) (base := base) g d_header c_text_field c_octal_field c_magic_field c_checksum_field
  have c_header4 := ok_header4 (P := R.prog) (w := w) (base := base) g d_header c_text_field c_octal_field c_magic_field c_checksum_field
  have c_numbers_of := ok_numbers_of (P := R.prog) (w := w) (base := base) g d_numbers_of c_number_of ⟨_, gl 73 rfl, rfl⟩ hNumT
  have c_is_name_right := ok_is_name_right (P := R.prog) (w := w) (base := base) g d_is_name_right c_is_name c_name_of
  have c_wrong_number := ok_wrong_number (P := R.prog) (w := w) (base := base) g d_wrong_number c_numbers_of c_name_of
  have c_is_kind_right := ok_is_kind_right (P := R.prog) (w := w) (base := base) g d_is_kind_right c_name_of c_kind_of
  have c_is_target_right := ok_is_target_right (P := R.prog) (w := w) (base := base) g d_is_target_right c_is_name c_kind_of c_target_of
  have c_wrong_field := ok_wrong_field (P := R.prog) (w := w) (base := base) g d_wrong_field c_numbers_of c_kind_of c_checksum_field c_magic_field c_is_target_right c_is_kind_right c_wrong_number c_is_name_right ⟨_, gl 74 rfl, rfl⟩ hSizT
  have c_wrong := ok_wrong (P := R.prog) (w := w) (base := base) g d_wrong
  have c_torn := ok_torn (P := R.prog) (w := w) (base := base) g d_torn
  have c_are_spans := ok_are_spans (P := R.prog) (w := w) (base := base) g d_are_spans
  have c_is_piece := ok_is_piece (P := R.prog) (w := w) (base := base) g d_is_piece c_is_integer
  have c_are_pieces := ok_are_pieces (P := R.prog) (w := w) (base := base) g d_are_pieces c_are_spans c_is_piece
  have c_law_draw := ok__law_draw (P := R.prog) (w := w) (base := base) g d__law_draw
  have c_law_source := ok__law_source (P := R.prog) (w := w) (base := base) g d__law_source
  have c_law_random_name := ok__law_random_name (P := R.prog) (w := w) (base := base) g d__law_random_name c_law_draw
  have c_law_any_name := ok__law_any_name (P := R.prog) (w := w) (base := base) g d__law_any_name c_law_draw c_law_random_name
  have c_law_random_size := ok__law_random_size (P := R.prog) (w := w) (base := base) g d__law_random_size c_law_draw
  have c_law_stamps := ok__law_stamps (P := R.prog) (w := w) (base := base) g d__law_stamps c_law_draw
  have c_law_random_numbers := ok__law_random_numbers (P := R.prog) (w := w) (base := base) g d__law_random_numbers c_law_draw
  have c_law_random_spans := ok__law_random_spans (P := R.prog) (w := w) (base := base) g d__law_random_spans c_law_draw
  have c_law_random_member := ok__law_random_member (P := R.prog) (w := w) (base := base) g d__law_random_member c_law_any_name c_law_random_numbers c_law_random_spans c_law_draw c_law_random_size c_law_stamps
  have c_law_random_list := ok__law_random_list (P := R.prog) (w := w) (base := base) g d__law_random_list c_law_draw c_law_random_member
  have c_law_codes := ok__law_codes (P := R.prog) (w := w) (base := base) g d__law_codes
  have c_law_octal := ok__law_octal (P := R.prog) (w := w) (base := base) g d__law_octal
  have c_law_filled := ok__law_filled (P := R.prog) (w := w) (base := base) g d__law_filled
  have c_law_head := ok__law_head (P := R.prog) (w := w) (base := base) g d__law_head c_law_octal c_law_codes
  have c_law_long := ok__law_long (P := R.prog) (w := w) (base := base) g d__law_long c_law_head c_law_filled c_law_codes
  have c_law_stored := ok__law_stored (P := R.prog) (w := w) (base := base) g d__law_stored c_law_filled c_law_codes
  have c_File := ok_File (P := R.prog) (w := w) (base := base) (cs := csM K) g c_look_name c_look_stamps cd_File m_File (gl 68 rfl) f2
  have c_Directory := ok_Directory (P := R.prog) (w := w) (base := base) (cs := csM K) g c_look_name c_look_stamps cd_Directory m_Directory (gl 70 rfl) f2
  have c_Symlink := ok_Symlink (P := R.prog) (w := w) (base := base) (cs := csM K) g c_look_name c_look_stamps cd_Symlink m_Symlink (gl 71 rfl) f2
  have c_Link := ok_Link (P := R.prog) (w := w) (base := base) (cs := csM K) g c_look_name c_look_stamps cd_Link m_Link (gl 72 rfl) f2
  have c_Sparse := ok_Sparse (P := R.prog) (w := w) (base := base) (cs := csM K) g c_look_name c_is_within c_are_pieces c_look_stamps cd_Sparse m_Sparse (gl 69 rfl) f2
  have c_map_block := ok_map_block (P := R.prog) (w := w) (base := base) g d_map_block c_padded
  have c_stored := ok_stored (P := R.prog) (w := w) (base := base) (cs := csM K) g d_stored c_map_block cF
  have c_long_part := ok_long_part (P := R.prog) (w := w) (base := base) g d_long_part c_header1 c_header4 c_padded c_is_short
  have c_bytes_of := ok_bytes_of (P := R.prog) (w := w) (base := base) (cs := csM K) g d_bytes_of c_long_part c_padded c_header1 c_header4 c_target_text c_stored cF ⟨_, gl 75 rfl, rfl⟩ hLetT
  have c_blocks_of := ok_blocks_of (P := R.prog) (w := w) (base := base) (cs := csM K) g d_blocks_of c_bytes_of
  have c_written := ok_written (P := R.prog) (w := w) (base := base) (cs := csM K) g d_written c_bytes_of
  have c_whole_numbers := ok_whole_numbers (P := R.prog) (w := w) (base := base) g d_whole_numbers c_text_of
  have c_spans_of := ok_spans_of (P := R.prog) (w := w) (base := base) g d_spans_of c_map_block c_are_spans c_whole_numbers
  have c_sparse2 := ok_sparse (P := R.prog) (w := w) (base := base) (cs := csM K) g d_sparse c_Sparse
  have c_at_header := ok_at_header (P := R.prog) (w := w) (base := base) (cs := csM K) g d_at_header c_Link c_Symlink c_Directory c_sparse2 c_File c_target_of c_wrong c_torn c_spans_of c_name_of c_kind_of c_numbers_of
  have c_look_at := ok_look_at (P := R.prog) (w := w) (base := base) (cs := csM K) g d_look_at c_torn c_wrong c_is_text_of c_numbers_of c_text_of c_at_header c_kind_of c_wrong_field
  have c_scan := ok_scan (P := R.prog) (w := w) (base := base) (cs := csM K) g d_scan c_look_data c_is_within c_look_at
  have c_read := ok_read (P := R.prog) (w := w) (base := base) (cs := csM K) g d_read c_complain c_scan
  have c_law_bytes := ok__law_bytes (P := R.prog) (w := w) (base := base) g d__law_bytes c_law_long c_law_filled c_law_head c_law_stored
  have c_law_archive := ok__law_archive (P := R.prog) (w := w) (base := base) g d__law_archive c_law_bytes
  have c_law_random_data := ok__law_random_data (P := R.prog) (w := w) (base := base) g d__law_random_data c_law_draw c_law_archive c_law_random_list
  exact ok_law (cs := csM K) g cF EK Feq beq c_read c_written c_blocks_of c_scan c_blob c_law_random_data c_law_source F
end TarH

/-! TaW7 -/
set_option Elab.async false
set_option linter.all false
open PySem PySem.W PySem.Calls PyProof.Rows
set_option maxRecDepth 100000 in
set_option maxHeartbeats 0 in
theorem PySem.Challenge.cw_tarhouse_k22_whole_data_are_what_was_wri_holds : PySem.Challenge.rw_tarhouse_k22_whole_data_are_what_was_wri.Holds := by
  w_on; o_law
  refine HandSHeadRun.head_any (r := OpenLaw.row PySem.Challenge.rw_tarhouse_k22_whole_data_are_what_was_wri) (q := view (OpenLaw.row PySem.Challenge.rw_tarhouse_k22_whole_data_are_what_was_wri).prog [106]) (H := TarH.hookM) (ob := TarH.obM) (M := 30000) (loose := TarH.names) (d := HandSHeadRun.topDef (OpenLaw.row PySem.Challenge.rw_tarhouse_k22_whole_data_are_what_was_wri).prog 106) (kwd := []) TarH.obM_eq
    (by kernel_rfl) (fun s => by kernel_rfl) TarH.run (by kernel_rfl) (by kernel_rfl) (by kernel_rfl) (by rfl) (by first | assumption | decide +kernel) (by decide +kernel) ⟨rfl, rfl, rfl, rfl, rfl, by decide +kernel⟩ ?hw ?hc
  case hw => w_witness2
  case hc =>
    refine L2.walk_ofE (l := PySem.Challenge.rw_tarhouse_k22_whole_data_are_what_was_wri) (n := 63) (k := 11) (x := "_law_script") (CX := C8.CX0) rfl (by decide) (by kernel_rfl) ⟨rfl, by decide, by decide⟩ ?F (fun _ _ _ _ z => z)
    intro w mg fa h Y G hmg0
    obtain ⟨K, KX, c⟩ := Y
    have hmg : mg ("law" : PySem.Str) = some (.ref fa) := by
      have e : (HandSHeadRun.topDef (OpenLaw.row PySem.Challenge.rw_tarhouse_k22_whole_data_are_what_was_wri).prog 106).name = ("law" : PySem.Str) := by kernel_rfl
      rw [← e]
      exact hmg0
    obtain ⟨fd, hb, hF⟩ := TarH.facts KX G hmg c
    exact ⟨K, fd, Tar.spLaw K, KX, hb, fun H a ns hl _ hS => ⟨a, ns, rfl, hS, hl, fun _ => rfl⟩, hF⟩
