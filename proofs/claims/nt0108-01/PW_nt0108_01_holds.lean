import PyProof.Rows.All
import KE.KDictSum
import Wide.All
import OpenK.AllK
import Wide.FinOn
import KE.IntBitsLaws
import Lean
import PySem.Challenge.RW_nt0108_01
set_option Elab.async false
set_option bootstrap.genMatcherCode false
set_option linter.all false
set_option autoImplicit false
set_option tactic.hygienic false
set_option genCtorIdx false
set_option compiler.extract_closed false
set_option genSizeOf false
set_option genInjectivity false
set_option linter.unusedVariables false
set_option linter.unusedSectionVars false
set_option maxRecDepth 100000
open PySem PySem.W PyProof.Rows
section
namespace Mine
set_option genCtorIdx true in
inductive Fn where
  | putNumber | getNumber | isPageSize | recordSum
  | jInit | jFile | jRecordSize | jBegin | jAdd | jSync | jReadHead | jIsHot | jPlay | jFinish
  | lockInit | fInit | fSize | fRead | fWrite | fTruncate | fSync | fSurviving
  | cInit | cFollowing | dInit | dStep | dCheckRoom | dExists | dOpen | dDelete | dSurvivor
  | putOctets | cutOctets | lPool | lTake | lPage | lChanges | lBegun | lLot | lChanged | lRecovered
  | lChoices | lCrashed | lCrashRight | law
  deriving DecidableEq
set_option genCtorIdx true in
inductive Cls where
  | journal | locks | file | choices | disk
  deriving DecidableEq
set_option genInjectivity true in
inductive V where
  | none
  | bool (b : Bool)
  | int (i : Int)
  | str (s : String)
  | bytes (b : List UInt8)
  | tup (vs : List V)
  | list (vs : List V)
  | ref (a : Addr)
  | fn (f : Fn)
  | cls (c : Cls)
  | bi (v : Value)
set_option genInjectivity true in
set_option genCtorIdx true in
inductive O where
  | inst (c : Cls) (fs : List (String × V))
  | list (vs : List V)
  | dict (es : List (String × V))
  | ba (b : List UInt8)
abbrev Store := Addr → Option O
noncomputable def Store.set (σ : Store) (a : Addr) (o : O) : Store := fun b => if b = a then some o else σ b
abbrev Loc := List (Option V)
inductive E where
  | c (v : V)
  | x (i : Nat)
  | g (n : String)
  | bin (op : Operator) (a b : E)
  | neg (a : E)
  | not (a : E)
  | bop (op : BoolOp) (a b : E)
  | cmp (op : CmpOp) (a b : E)
  | cmp2 (o1 o2 : CmpOp) (a b c : E)
  | ite (t a b : E)
  | attr (a : E) (n : String)
  | sub (a i : E)
  | slice (a : E) (lo hi : Option E)
  | tup (es : List E)
  | list (live : Bool) (es : List E)
  | dict0
  | compR (elt : E) (i : Nat) (args : List E) (cond : Option E)
  | compL (elt : E) (i : Nat) (src : E)
  | call (f : E) (args : List E)
  | meth (o : E) (n : String) (args : List E)
inductive T where
  | x (i : Nat)
  | tup (is : List Nat)
  | attr (o : E) (n : String)
  | sub (a i : E)
  | slice (a lo hi : E)
inductive It where
  | e (a : E)
  | rng (args : List E)
  | enum (a : E)
set_option genCtorIdx true in
inductive S where
  | expr (e : E)
  | asg (t : T) (e : E)
  | aug (i : Nat) (op : Operator) (e : E)
  | augA (o : E) (n : String) (op : Operator) (e : E)
  | ifs (t : E) (a b : List S)
  | for_ (t : T) (it : It) (body : List S)
  | ret (e : Option E)
  | raise_ (msg : String)
  | try_ (body : List S) (handler : List S)
  | delSub (a i : E)
  | delSlice (a lo : E)
  | cont
set_option genInjectivity true in
set_option genCtorIdx true in
inductive Fl where
  | next | cont
  | ret (v : V)
noncomputable def getF : List (String × V) → String → Option V
  | [], _ => .none
  | (k, v) :: r, n => if k = n then some v else getF r n
noncomputable def putF : List (String × V) → String → V → List (String × V)
  | [], n, w => [(n, w)]
  | (k, v) :: r, n, w => if k = n then (n, w) :: r else (k, v) :: putF r n w
noncomputable def delF (es : List (String × V)) (n : String) : List (String × V) := es.filter fun p => decide (p.1 ≠ n)
end Mine
namespace Mine
@[elab_as_elim] theorem rwg {α : Sort _} {a b : α} {p : α → Prop} (e : a = b) (h : p b) : p a := e ▸ h
@[elab_as_elim] theorem rwl {α : Sort _} {a b : α} {p : α → Prop} (e : b = a) (h : p b) : p a := e ▸ h
theorem foldg {P : Prop} (h : ∀ G : Prop, (P → G) → G) : P := h P id
inductive Ex2 {α : Sort _} (R K : α → Prop) : Prop
  | intro (v : α) (h : R v) (k : K v)
inductive Ex3 {α β : Sort _} (R K : α → β → Prop) : Prop
  | intro (v : α) (w : β) (h : R v w) (k : K v w)
theorem no_some {α : Type} {P : α → Prop} (k : α) (e : none = some k) : P k := nomatch e
noncomputable def isNoneV : V → Bool
  | .none => true
  | .bi b => b == Value.none
  | _ => false
inductive BinR : Operator → V → V → V → Prop
  | addI (a b : Int) : BinR .Add (.int a) (.int b) (.int (a + b))
  | subI (a b : Int) : BinR .Sub (.int a) (.int b) (.int (a - b))
  | mulI (a b : Int) (h : IntMulOk a b) : BinR .Mult (.int a) (.int b) (.int (a * b))
  | divI (a b : Int) (h : b ≠ 0) (h' : Builtin.divisionGoesByPylong a b = false) : BinR .FloorDiv (.int a) (.int b) (.int (Int.fdiv a b))
  | modI (a b : Int) (h : b ≠ 0) : BinR .Mod (.int a) (.int b) (.int (Int.fmod a b))
  | powI (a b : Int) (h : (a = 10 ∧ b = 18) ∨ (a = 256 ∧ b = 4)) : BinR .Pow (.int a) (.int b) (.int (a ^ b.toNat))
  | addB (a b : List UInt8) (h : a.length + b.length ≤ 16777216) : BinR .Add (.bytes a) (.bytes b) (.bytes (a ++ b))
  | mulB (a : List UInt8) (n : Int) (h : 0 ≤ n ∧ n ≤ 1000 ∧ a.length ≤ 16 ∧ a ≠ []) : BinR .Mult (.bytes a) (.int n) (.bytes (List.replicate n.toNat a).flatten)
  | addS : BinR .Add (.str "db") (.str "-journal") (.str "db-journal")
  | addL (a b : List V) (h : a.length + b.length ≤ 100000) : BinR .Add (.list a) (.list b) (.list (a ++ b))
noncomputable def wBin (op : Operator) (a b : V) (K : V → Prop) : Prop := Ex2 (BinR op a b) K
inductive CmpR (σ : Store) : CmpOp → V → V → Bool → Prop
  | lt (a b : Int) : CmpR σ .Lt (.int a) (.int b) (decide (a < b))
  | le (a b : Int) : CmpR σ .LtE (.int a) (.int b) (decide (a ≤ b))
  | gt (a b : Int) : CmpR σ .Gt (.int a) (.int b) (decide (b < a))
  | ge (a b : Int) : CmpR σ .GtE (.int a) (.int b) (decide (b ≤ a))
  | eqI (a b : Int) : CmpR σ .Eq (.int a) (.int b) (decide (a = b))
  | neI (a b : Int) : CmpR σ .NotEq (.int a) (.int b) (decide (a ≠ b))
  | eqB (a b : List UInt8) : CmpR σ .Eq (.bytes a) (.bytes b) (decide (a = b))
  | neB (a b : List UInt8) : CmpR σ .NotEq (.bytes a) (.bytes b) (decide (a ≠ b))
  | eqS (a b : String) : CmpR σ .Eq (.str a) (.str b) (decide (a = b))
  | eqL (ns ms : List Int) : CmpR σ .Eq (.list (ns.map V.int)) (.list (ms.map V.int)) (decide (ns = ms))
  | neL (xs ys : List (List UInt8)) (lx : xs.length ≤ 1) (ly : ys.length ≤ 1) : CmpR σ .NotEq (.list (xs.map V.bytes)) (.list (ys.map V.bytes)) (decide (xs ≠ ys))
  | is (v : V) : CmpR σ .Is v .none (isNoneV v)
  | isNot (v : V) : CmpR σ .IsNot v .none (!isNoneV v)
  | isIn (s : String) (d : Addr) (es : List (String × V)) (h : σ d = some (.dict es)) : CmpR σ .In (.str s) (.ref d) (getF es s).isSome
  | notIn (s : String) (d : Addr) (es : List (String × V)) (h : σ d = some (.dict es)) : CmpR σ .NotIn (.str s) (.ref d) (getF es s).isNone
noncomputable def wCmp (σ : Store) (op : CmpOp) (a b : V) (K : Bool → Prop) : Prop := Ex2 (CmpR σ op a b) K
inductive SubR (σ : Store) : V → V → V → Prop
  | list (vs : List V) (i : Int) (v : V) (h : vs.length ≤ 1000000) (e : (seqIndex? i vs.length).bind (vs[·]?) = some v) : SubR σ (.list vs) (.int i) v
  | tup (vs : List V) (i : Int) (v : V) (h : vs.length ≤ 1000000) (e : (seqIndex? i vs.length).bind (vs[·]?) = some v) : SubR σ (.tup vs) (.int i) v
  | bytes (b : List UInt8) (i : Int) (h : 0 ≤ i ∧ i < b.length ∧ b.length ≤ 1000000) : SubR σ (.bytes b) (.int i) (.int ((b.getD i.toNat 0).toNat : Nat))
  | cell (r : Addr) (vs : List V) (i : Int) (v : V) (hr : σ r = some (.list vs)) (h : vs.length ≤ 1000000) (e : (seqIndex? i vs.length).bind (vs[·]?) = some v) : SubR σ (.ref r) (.int i) v
  | dict (r : Addr) (es : List (String × V)) (s : String) (v : V) (hr : σ r = some (.dict es)) (e : getF es s = some v) : SubR σ (.ref r) (.str s) v
noncomputable def wSub (σ : Store) (a i : V) (K : V → Prop) : Prop := Ex2 (SubR σ a i) K
noncomputable def sl {α : Type} (xs : List α) (lo hi : Option Int) : List α :=
  (xs.drop (lo.elim 0 (clipAt xs.length))).take (hi.elim xs.length (clipAt xs.length) - lo.elim 0 (clipAt xs.length))
inductive Out where
  | val (v : V)
  | new (o : O)
  | upd (σ : Store)
noncomputable def wNew (σ : Store) (o : O) (Q : V → Store → Prop) : Prop := ∀ a, σ a = none → Q (.ref a) (σ.set a o)
noncomputable def wOut (σ : Store) (o : Out) (K : V → Store → Prop) : Prop := match o with
  | .val v => K v σ
  | .new o => wNew σ o K
  | .upd σ' => K .none σ'
inductive SliceR (σ : Store) (lo hi : Option Int) : V → Out → Prop
  | bytes (b : List UInt8) (h : b.length ≤ 1000000) : SliceR σ lo hi (.bytes b) (.val (.bytes (sl b lo hi)))
  | list (vs : List V) (h : vs.length ≤ 100000) : SliceR σ lo hi (.list vs) (.val (.list (sl vs lo hi)))
  | ba (r : Addr) (b : List UInt8) (hr : σ r = some (.ba b)) (h : b.length ≤ 1000000) : SliceR σ lo hi (.ref r) (.new (.ba (sl b lo hi)))
noncomputable def wSlice (σ : Store) (a : V) (lo hi : Option Int) (K : V → Store → Prop) : Prop := Ex2 (SliceR σ lo hi a) (fun o => wOut σ o K)
noncomputable def rngL (n : Int) : List V := (List.range n.toNat).map fun (i : Nat) => V.int (i : Int)
inductive RangeR : List V → List V → Prop
  | one (n : Int) (h : -100000 ≤ n ∧ n ≤ 100000) : RangeR [.int n] (rngL n)
  | down : RangeR [.int 63, .int (-1), .int (-8)] ([63, 55, 47, 39, 31, 23, 15, 7].map V.int)
noncomputable def wRange (args : List V) (K : List V → Prop) : Prop := Ex2 (RangeR args) K
noncomputable def keysOf (es : List (String × V)) : List String := es.map (·.1)
inductive BiR (σ : Store) : Value → List V → Out → Prop
  | lenL (vs : List V) (h : vs.length ≤ 1000000) : BiR σ (.builtin "len") [.list vs] (.val (.int vs.length))
  | lenB (b : List UInt8) (h : b.length ≤ 1000000) : BiR σ (.builtin "len") [.bytes b] (.val (.int b.length))
  | lenC (r : Addr) (vs : List V) (hr : σ r = some (.list vs)) (h : vs.length ≤ 1000000) : BiR σ (.builtin "len") [.ref r] (.val (.int vs.length))
  | lenA (r : Addr) (b : List UInt8) (hr : σ r = some (.ba b)) (h : b.length ≤ 1000000) : BiR σ (.builtin "len") [.ref r] (.val (.int b.length))
  | max (a b : Int) : BiR σ (.builtin "max") [.int a, .int b] (.val (.int (if a < b then b else a)))
  | sorted (r : Addr) (es : List (String × V)) (hr : σ r = some (.dict es)) (h : keysOf es = ["db"] ∨ keysOf es = ["db", "db-journal"]) : BiR σ (.builtin "sorted") [.ref r] (.val (.list (es.map fun p => V.str p.1)))
  | bytesB (b : List UInt8) : BiR σ (.type "bytes") [.bytes b] (.val (.bytes b))
  | bytesI (n : Int) (h : 0 ≤ n ∧ n ≤ 1000000) : BiR σ (.type "bytes") [.int n] (.val (.bytes (List.replicate n.toNat 0)))
  | bytesL (n : Int) (h : 0 ≤ n ∧ n < 256) : BiR σ (.type "bytes") [.list [.int n]] (.val (.bytes [n.toNat.toUInt8]))
  | bytesA (r : Addr) (b : List UInt8) (hr : σ r = some (.ba b)) (h : b.length ≤ 1000000) : BiR σ (.type "bytes") [.ref r] (.val (.bytes b))
  | ba0 : BiR σ (.type "bytearray") [] (.new (.ba []))
  | ba1 (b : List UInt8) (h : b.length ≤ 1000000) : BiR σ (.type "bytearray") [.bytes b] (.new (.ba b))
  | list (vs : List V) (h : vs.length ≤ 100000) : BiR σ (.type "list") [.list vs] (.val (.list vs))
noncomputable def wBi (σ : Store) (f : Value) (args : List V) (K : V → Store → Prop) : Prop := Ex2 (BiR σ f args) (fun o => wOut σ o K)
noncomputable def bigOf (k : Nat) (x : Int) : List UInt8 := ((KTBy.little k x).reverse).map fun i => i.toNat.toUInt8
noncomputable def ofBig (b : List UInt8) : Int := b.foldl (fun a c => a * 256 + (c.toNat : Int)) 0
set_option genCtorIdx true in
inductive BM where
  | append | extend | join | toBytes | fromBytes
inductive MethR (σ : Store) : BM → V → List V → Out → Prop
  | append (r : Addr) (vs : List V) (v : V) (hr : σ r = some (.list vs)) (h : vs.length ≤ 100000) : MethR σ .append (.ref r) [v] (.upd (σ.set r (.list (vs ++ [v]))))
  | extend (r : Addr) (b c : List UInt8) (hr : σ r = some (.ba b)) (h : b.length + c.length ≤ 1000000) : MethR σ .extend (.ref r) [.bytes c] (.upd (σ.set r (.ba (b ++ c))))
  | join (bs : List (List UInt8)) (h : bs.length ≤ 1000 ∧ bs.flatten.length ≤ 1000000) : MethR σ .join (.bytes []) [.list (bs.map V.bytes)] (.val (.bytes bs.flatten))
  | toBytes (x : Int) (h : 0 ≤ x ∧ x < 4294967296) : MethR σ .toBytes (.int x) [.int 4, .str "big"] (.val (.bytes (bigOf 4 x)))
  | fromBytes (b : List UInt8) (h : b.length ≤ 8) : MethR σ .fromBytes (.bi (.type "int")) [.bytes b, .str "big"] (.val (.int (ofBig b)))
noncomputable def wMethB (σ : Store) (m : BM) (o : V) (args : List V) (K : V → Store → Prop) : Prop := Ex2 (MethR σ m o args) (fun out => wOut σ out K)
noncomputable def methTab : Cls → List (String × Fn)
  | .journal => [("file", .jFile), ("record_size", .jRecordSize), ("begin", .jBegin), ("add", .jAdd), ("sync", .jSync), ("read_head", .jReadHead), ("is_hot", .jIsHot), ("play", .jPlay), ("finish", .jFinish)]
  | .locks => []
  | .file => [("size", .fSize), ("read", .fRead), ("write", .fWrite), ("truncate", .fTruncate), ("sync", .fSync), ("surviving", .fSurviving)]
  | .choices => [("following", .cFollowing)]
  | .disk => [("step", .dStep), ("check_room", .dCheckRoom), ("exists", .dExists), ("open", .dOpen), ("delete", .dDelete), ("survivor", .dSurvivor)]
noncomputable def methOf (c : Cls) (n : String) : Option Fn := (methTab c).lookup n
noncomputable def initOf : Cls → Fn
  | .journal => .jInit
  | .locks => .lockInit
  | .file => .fInit
  | .choices => .cInit
  | .disk => .dInit
abbrev CallT := Fn → List V → Store → (V → Store → Prop) → (Store → Prop) → Prop
noncomputable def wApp (call : CallT) (f : V) (args : List V) (σ : Store) (Q : V → Store → Prop) (X : Store → Prop) : Prop := match f with
  | .fn f => call f args σ Q X
  | .cls c => ∀ a, σ a = none → call (initOf c) (.ref a :: args) (σ.set a (.inst c [])) (fun v σ' => match v with | .none => Q (.ref a) σ' | _ => False) X
  | .bi b => wBi σ b args Q
  | _ => False
inductive Sel where
  | fn (f : Fn)
  | bi (m : BM)
inductive SelOf (σ : Store) : V → String → Sel → Prop
  | fn (r : Addr) (c : Cls) (fs : List (String × V)) (n : String) (f : Fn) (hr : σ r = some (.inst c fs)) (hm : methOf c n = some f) (hf : getF fs n = none) : SelOf σ (.ref r) n (.fn f)
  | append (r : Addr) (vs : List V) (hr : σ r = some (.list vs)) : SelOf σ (.ref r) "append" (.bi .append)
  | extend (r : Addr) (b : List UInt8) (hr : σ r = some (.ba b)) : SelOf σ (.ref r) "extend" (.bi .extend)
  | join : SelOf σ (.bytes []) "join" (.bi .join)
  | toBytes (x : Int) : SelOf σ (.int x) "to_bytes" (.bi .toBytes)
  | fromBytes : SelOf σ (.bi (.type "int")) "from_bytes" (.bi .fromBytes)
noncomputable def selOf (σ : Store) (o : V) (n : String) (K : Sel → Prop) : Prop := Ex2 (SelOf σ o n) K
noncomputable def wSel (call : CallT) (s : Sel) (o : V) (args : List V) (σ : Store) (Q : V → Store → Prop) (X : Store → Prop) : Prop := match s with
  | .fn f => call f (o :: args) σ Q X
  | .bi m => wMethB σ m o args Q
noncomputable def truthV (v : V) (K : Bool → Prop) : Prop := match v with
  | .bool b => K b
  | _ => False
theorem truthV_inv {v : V} {K : Bool → Prop} (h : truthV v K) : ∃ b, v = .bool b ∧ K b := by cases v <;> first | exact ⟨_, rfl, h⟩ | exact h.elim
noncomputable def wInt (v : V) (K : Int → Prop) : Prop := match v with
  | .int i => K i
  | _ => False
theorem wInt_inv {v : V} {K : Int → Prop} (h : wInt v K) : ∃ i, v = .int i ∧ K i := by cases v <;> first | exact ⟨_, rfl, h⟩ | exact h.elim
noncomputable def locP (o : Option (Option V)) (K : V → Prop) : Prop := match o with
  | some (some v) => K v
  | _ => False
theorem locP_inv {K : V → Prop} : ∀ {o : Option (Option V)}, locP o K → ∃ v, o = some (some v) ∧ K v
  | some (some v), h => ⟨v, rfl, h⟩
theorem locP_i {o : Option (Option V)} {v : V} {K : V → Prop} (h : o = some (some v)) (k : K v) : locP o K := by rw [h]; exact k
abbrev Tr (α : Type) := Store → (α → Store → Prop) → (Store → Prop) → Prop
noncomputable def gval : String → V
  | "WORD" => .int 4294967296
  | "NOT_SYNCED" => .int 4294967295
  | "LEAST_PAGE_SIZE" => .int 64
  | "MOST_PAGE_SIZE" => .int 32768
  | "HEAD_SIZE" => .int 24
  | "COUNT_AT" => .int 8
  | "JOURNAL_MAGIC" => .bytes [112, 98, 106, 111, 117, 114, 110, 108]
  | "put_number" => .fn .putNumber
  | "get_number" => .fn .getNumber
  | "is_page_size" => .fn .isPageSize
  | "record_sum" => .fn .recordSum
  | "put_octets" => .fn .putOctets
  | "cut_octets" => .fn .cutOctets
  | "_law_pool" => .fn .lPool
  | "_law_take" => .fn .lTake
  | "_law_page" => .fn .lPage
  | "_law_changes" => .fn .lChanges
  | "_law_begun" => .fn .lBegun
  | "_law_lot" => .fn .lLot
  | "_law_changed" => .fn .lChanged
  | "_law_recovered" => .fn .lRecovered
  | "_law_choices" => .fn .lChoices
  | "_law_crashed" => .fn .lCrashed
  | "_law_crash_right" => .fn .lCrashRight
  | "Journal" => .cls .journal
  | "LockTable" => .cls .locks
  | "DiskFile" => .cls .file
  | "Choices" => .cls .choices
  | "Disk" => .cls .disk
  | "list" => .bi (.type "list")
  | "bytes" => .bi (.type "bytes")
  | "bytearray" => .bi (.type "bytearray")
  | "int" => .bi (.type "int")
  | "len" => .bi (.builtin "len")
  | "max" => .bi (.builtin "max")
  | "sorted" => .bi (.builtin "sorted")
  | "range" => .bi (.type "range")
  | "enumerate" => .bi (.type "enumerate")
  | _ => .none
noncomputable def gnames : List String := ["WORD", "NOT_SYNCED", "LEAST_PAGE_SIZE", "MOST_PAGE_SIZE", "HEAD_SIZE", "COUNT_AT", "JOURNAL_MAGIC", "put_number", "get_number", "is_page_size", "record_sum", "put_octets", "cut_octets",
  "_law_pool", "_law_take", "_law_page", "_law_changes", "_law_begun", "_law_lot", "_law_changed", "_law_recovered", "_law_choices", "_law_crashed", "_law_crash_right",
  "Journal", "LockTable", "DiskFile", "Choices", "Disk", "list", "bytes", "bytearray", "int", "len", "max", "sorted", "range", "enumerate"]
noncomputable def cX (i : Nat) (ρ : Loc) : Tr V := fun σ Q u_ => locP ρ[i]? fun v => Q v σ
noncomputable def cBin (op : Operator) (fa fb : Tr V) : Tr V := fun σ Q X => fa σ (fun va σ => fb σ (fun vb σ => wBin op va vb fun v => Q v σ) X) X
noncomputable def wNeg (v : V) (K : V → Prop) : Prop := wInt v fun i => K (.int (-i))
noncomputable def cNeg (fa : Tr V) : Tr V := fun σ Q X => fa σ (fun v σ => wNeg v fun v => Q v σ) X
noncomputable def cCmpB (op : CmpOp) (fa fb : Tr V) : Tr Bool := fun σ Q X => fa σ (fun va σ => fb σ (fun vb σ => wCmp σ op va vb fun r => Q r σ) X) X
noncomputable def cCmp2B (o1 o2 : CmpOp) (fa fb fc : Tr V) : Tr Bool := fun σ Q X => fa σ (fun va σ => fb σ (fun vb σ => wCmp σ o1 va vb fun r => match r with
  | true => fc σ (fun vc σ => wCmp σ o2 vb vc fun r => Q r σ) X
  | false => Q false σ) X) X
noncomputable def cBool (f : Tr Bool) : Tr V := fun σ Q X => f σ (fun r σ => Q (.bool r) σ) X
noncomputable def cIte {α : Type} (ft : Tr Bool) (fa fb : Tr α) : Tr α := fun σ Q X => ft σ (fun r σ => match r with
  | true => fa σ Q X
  | false => fb σ Q X) X
noncomputable def notBi : V → Bool
  | .bi _ => false
  | _ => true
inductive AttrR (σ : Store) : V → String → V → Prop
  | mk (r : Addr) (c : Cls) (fs : List (String × V)) (n : String) (v : V) (hr : σ r = some (.inst c fs)) (hf : getF fs n = some v) (hb : notBi v = true) : AttrR σ (.ref r) n v
noncomputable def wAttr (σ : Store) (v : V) (n : String) (K : V → Prop) : Prop := Ex2 (AttrR σ v n) K
noncomputable def cAttr (fa : Tr V) (n : String) : Tr V := fun σ Q X => fa σ (fun va σ => wAttr σ va n fun v => Q v σ) X
noncomputable def cSub (fa fi : Tr V) : Tr V := fun σ Q X => fa σ (fun va σ => fi σ (fun vi σ => wSub σ va vi fun v => Q v σ) X) X
noncomputable def cSlice (fa : Tr V) (fl fh : Tr (Option Int)) : Tr V := fun σ Q X => fa σ (fun va σ => fl σ (fun l σ => fh σ (fun h σ => wSlice σ va l h Q) X) X) X
noncomputable def cTup (fs : Tr (List V)) : Tr V := fun σ Q X => fs σ (fun vs σ => vs.length ≤ 100 ∧ Q (.tup vs) σ) X
noncomputable def cList (live : Bool) (fs : Tr (List V)) : Tr V := fun σ Q X => fs σ (fun vs σ => vs.length ≤ 100 ∧ match live with
  | true => wNew σ (.list vs) Q
  | false => Q (.list vs) σ) X
noncomputable def keepOne (acc : List V) : Option V → List V
  | some x => acc ++ [x]
  | none => acc
noncomputable def wAcc (turn : V → Store → (Option V → Store → Prop) → Prop) : List V → List V → Store → (List V → Store → Prop) → Prop
  | [], acc, σ, Q => Q acc σ
  | v :: vs, acc, σ, Q => turn v σ fun r σ' => wAcc turn vs (keepOne acc r) σ' Q
noncomputable def noX : Store → Prop := fun u_ => False
noncomputable def wComp (felt : Loc → Tr V) (ft : Option (Loc → Tr Bool)) (i : Nat) (ρ : Loc) (items : List V) (σ : Store) (Q : V → Store → Prop) : Prop :=
  i < ρ.length ∧ wAcc (fun v σ K => match ft with
    | none => felt (ρ.set i (some v)) σ (fun x σ => K (some x) σ) noX
    | some t => t (ρ.set i (some v)) σ (fun r σ => match r with
      | true => felt (ρ.set i (some v)) σ (fun x σ => K (some x) σ) noX
      | false => K none σ) noX) items [] σ fun xs σ => xs.length ≤ 100000 ∧ Q (.list xs) σ
noncomputable def cCompR (felt : Loc → Tr V) (i : Nat) (fargs : Tr (List V)) (ft : Option (Loc → Tr Bool)) (ρ : Loc) : Tr V := fun σ Q X => fargs σ (fun vs σ => wRange vs fun items => wComp felt ft i ρ items σ Q) X
noncomputable def cCompL (felt : Loc → Tr V) (i : Nat) (fsrc : Tr V) (ρ : Loc) : Tr V := fun σ Q X => fsrc σ (fun v σ => Ex2 (fun items => v = .list items ∧ items.length ≤ 100000) fun items => wComp felt none i ρ items σ Q) X
noncomputable def cCall (call : CallT) (ff : Tr V) (fargs : Tr (List V)) : Tr V := fun σ Q X => ff σ (fun vf σ => fargs σ (fun vs σ => wApp call vf vs σ Q X) X) X
noncomputable def cMeth (call : CallT) (fo : Tr V) (n : String) (fargs : Tr (List V)) : Tr V := fun σ Q X => fo σ (fun vo σ => selOf σ vo n fun s => fargs σ (fun vs σ => wSel call s vo vs σ Q X) X) X
noncomputable def cTruth (f : Tr V) : Tr Bool := fun σ Q X => f σ (fun v σ => truthV v fun b => Q b σ) X
noncomputable def cNot (f : Tr Bool) : Tr Bool := fun σ Q X => f σ (fun r σ => Q (!r) σ) X
noncomputable def cBop (op : BoolOp) (fa fb : Tr Bool) : Tr Bool := fun σ Q X => fa σ (fun r σ => match op, r with
  | .And, true => fb σ Q X
  | .And, false => Q false σ
  | .Or, true => Q true σ
  | .Or, false => fb σ Q X) X
noncomputable def cOpt (f : Tr V) : Tr (Option Int) := fun σ Q X => f σ (fun v σ => wInt v fun i => Q (some i) σ) X
mutual
noncomputable def wE (call : CallT) : E → Loc → Tr V
  | .c v, _ => fun σ Q u_ => Q v σ
  | .x i, ρ => cX i ρ
  | .g n, _ => fun σ Q u_ => Q (gval n) σ
  | .bin op a b, ρ => cBin op (wE call a ρ) (wE call b ρ)
  | .neg a, ρ => cNeg (wE call a ρ)
  | .not _, _ => fun u_ u_ u_ => False
  | .bop _ _ _, _ => fun u_ u_ u_ => False
  | .cmp op a b, ρ => cBool (cCmpB op (wE call a ρ) (wE call b ρ))
  | .cmp2 o1 o2 a b c, ρ => cBool (cCmp2B o1 o2 (wE call a ρ) (wE call b ρ) (wE call c ρ))
  | .ite t a b, ρ => cIte (wT call t ρ) (wE call a ρ) (wE call b ρ)
  | .attr a n, ρ => cAttr (wE call a ρ) n
  | .sub a i, ρ => cSub (wE call a ρ) (wE call i ρ)
  | .slice a lo hi, ρ => cSlice (wE call a ρ) (wO call lo ρ) (wO call hi ρ)
  | .tup es, ρ => cTup (wEs call es ρ)
  | .list live es, ρ => cList live (wEs call es ρ)
  | .dict0, _ => fun σ Q u_ => wNew σ (.dict []) Q
  | .compR elt i args cond, ρ => cCompR (wE call elt) i (wEs call args ρ) (wC call cond) ρ
  | .compL elt i src, ρ => cCompL (wE call elt) i (wE call src ρ) ρ
  | .call f args, ρ => cCall call (wE call f ρ) (wEs call args ρ)
  | .meth o n args, ρ => cMeth call (wE call o ρ) n (wEs call args ρ)
noncomputable def wT (call : CallT) : E → Loc → Tr Bool
  | .not a, ρ => cNot (wT call a ρ)
  | .bop op a b, ρ => cBop op (wT call a ρ) (wT call b ρ)
  | .cmp op a b, ρ => cCmpB op (wE call a ρ) (wE call b ρ)
  | .cmp2 o1 o2 a b c, ρ => cCmp2B o1 o2 (wE call a ρ) (wE call b ρ) (wE call c ρ)
  | .call f args, ρ => cTruth (cCall call (wE call f ρ) (wEs call args ρ))
  | .meth o n args, ρ => cTruth (cMeth call (wE call o ρ) n (wEs call args ρ))
  | _, _ => fun u_ u_ u_ => False
noncomputable def wO (call : CallT) : Option E → Loc → Tr (Option Int)
  | none, _ => fun σ Q u_ => Q none σ
  | some e, ρ => cOpt (wE call e ρ)
noncomputable def wC (call : CallT) : Option E → Option (Loc → Tr Bool)
  | none => none
  | some e => some (wT call e)
noncomputable def wEs (call : CallT) : List E → Loc → Tr (List V)
  | [], _ => fun σ Q u_ => Q [] σ
  | e :: r, ρ => fun σ Q X => wE call e ρ σ (fun v σ => wEs call r ρ σ (fun vs σ => Q (v :: vs) σ) X) X
end
inductive SetSubR (σ : Store) : V → V → V → Store → Prop
  | list (r : Addr) (vs : List V) (i : Int) (v : V) (hr : σ r = some (.list vs)) (h : 0 ≤ i ∧ i < vs.length ∧ vs.length ≤ 1000) : SetSubR σ (.ref r) (.int i) v (σ.set r (.list (vs.set i.toNat v)))
  | dict (r : Addr) (es : List (String × V)) (s : String) (v : V) (hr : σ r = some (.dict es)) (h : es.length ≤ 100 ∧ getF es s = none) : SetSubR σ (.ref r) (.str s) v (σ.set r (.dict (es ++ [(s, v)])))
noncomputable def wSetSub (σ : Store) (a i v : V) (K : Store → Prop) : Prop := Ex2 (SetSubR σ a i v) K
inductive SetAttrR (σ : Store) : V → String → V → Store → Prop
  | mk (r : Addr) (c : Cls) (fs : List (String × V)) (n : String) (v : V) (hr : σ r = some (.inst c fs)) (h : fs.length ≤ 100) : SetAttrR σ (.ref r) n v (σ.set r (.inst c (putF fs n v)))
noncomputable def wSetAttr (σ : Store) (o : V) (n : String) (v : V) (K : Store → Prop) : Prop := Ex2 (SetAttrR σ o n v) K
inductive SetSliceR (σ : Store) : V → V → V → V → Store → Prop
  | ba (r : Addr) (b c : List UInt8) (l h : Int) (hr : σ r = some (.ba b)) (hb : 0 ≤ l ∧ l ≤ h ∧ h ≤ 1000000 ∧ l ≤ b.length ∧ b.length ≤ 1000000 ∧ c.length ≤ 1000000) :
      SetSliceR σ (.ref r) (.int l) (.int h) (.bytes c) (σ.set r (.ba (b.take l.toNat ++ c ++ b.drop h.toNat)))
noncomputable def wSetSlice (σ : Store) (a l h v : V) (K : Store → Prop) : Prop := Ex2 (SetSliceR σ a l h v) K
noncomputable def wUnp (is : List Nat) (vs : List V) (ρ : Loc) (K : Loc → Prop) : Prop :=
  (is.length = vs.length ∧ is.Nodup ∧ ∀ i ∈ is, i < ρ.length) ∧ K ((is.zip vs).foldl (fun ρ p => ρ.set p.1 (some p.2)) ρ)
noncomputable def wUnpack (is : List Nat) (v : V) (ρ : Loc) (K : Loc → Prop) : Prop := Ex2 (fun vs => v = .tup vs ∨ v = .list vs) (fun vs => wUnp is vs ρ K)
noncomputable def wTgt (call : CallT) (t : T) (v : V) (ρ : Loc) : Tr Loc := match t with
  | .x i => fun σ Q u_ => i < ρ.length ∧ Q (ρ.set i (some v)) σ
  | .tup is => fun σ Q u_ => wUnpack is v ρ fun ρ => Q ρ σ
  | .attr o n => fun σ Q X => wE call o ρ σ (fun vo σ => wSetAttr σ vo n v fun σ => Q ρ σ) X
  | .sub a i => fun σ Q X => wE call a ρ σ (fun va σ => wE call i ρ σ (fun vi σ => wSetSub σ va vi v fun σ => Q ρ σ) X) X
  | .slice a lo hi => fun σ Q X => wE call a ρ σ (fun va σ => wE call lo ρ σ (fun l σ => wE call hi ρ σ (fun h σ => wSetSlice σ va l h v fun σ => Q ρ σ) X) X) X
abbrev TrS := Loc → Store → (Fl → Loc → Store → Prop) → (Loc → Store → Prop) → Prop
noncomputable def wLoop (ok : Store → Prop) (turn : V → TrS) : List V → TrS
  | [], ρ, σ, Q, _ => ok σ ∧ Q .next ρ σ
  | v :: vs, ρ, σ, Q, X => ok σ ∧ turn v ρ σ (fun fl ρ σ => match fl with
    | .ret r => Q (.ret r) ρ σ
    | _ => wLoop ok turn vs ρ σ Q X) X
inductive SrcR (σ : Store) : V → (Store → Prop) → List V → Prop
  | list (vs : List V) : SrcR σ (.list vs) (fun u_ => True) vs
  | cell (r : Addr) (vs : List V) (hr : σ r = some (.list vs)) : SrcR σ (.ref r) (fun σ' => σ' r = some (.list vs)) vs
noncomputable def srcOf (σ : Store) (v : V) (K : (Store → Prop) → List V → Prop) : Prop := Ex3 (SrcR σ v) K
noncomputable def enumL : Nat → List V → List V
  | _, [] => []
  | i, v :: vs => V.tup [.int (i : Int), v] :: enumL (i + 1) vs
noncomputable def wIt (call : CallT) (it : It) (ρ : Loc) (σ : Store) (K : (Store → Prop) → List V → Store → Prop) (X : Store → Prop) : Prop := match it with
  | .e a => wE call a ρ σ (fun v σ => srcOf σ v fun ok vs => vs.length ≤ 100000 ∧ K ok vs σ) X
  | .rng args => wEs call args ρ σ (fun vs σ => wRange vs fun items => K (fun u_ => True) items σ) X
  | .enum a => wE call a ρ σ (fun v σ => srcOf σ v fun ok vs => vs.length ≤ 100000 ∧ K ok (enumL 0 vs) σ) X
noncomputable def plainV : V → Prop
  | .ref _ => False
  | .list _ => False
  | .tup _ => False
  | .fn _ => False
  | .cls _ => False
  | _ => True
noncomputable def cExpr (f : Loc → Tr V) : TrS := fun ρ σ Q X => f ρ σ (fun v σ => plainV v ∧ Q .next ρ σ) (X ρ)
noncomputable def cAsg (f : Loc → Tr V) (g : V → Loc → Tr Loc) : TrS := fun ρ σ Q X => f ρ σ (fun v σ => g v ρ σ (fun ρ σ => Q .next ρ σ) (X ρ)) (X ρ)
noncomputable def wAdd (a b : V) (K : V → Prop) : Prop := wInt a fun x => wInt b fun y => K (.int (x + y))
noncomputable def cAug (i : Nat) (f : Loc → Tr V) : TrS := fun ρ σ Q X => cX i ρ σ (fun old σ => f ρ σ (fun v σ => wAdd old v fun v => Q .next (ρ.set i (some v)) σ) (X ρ)) (X ρ)
noncomputable def cAugA (fo : Loc → Tr V) (n : String) (f : Loc → Tr V) : TrS := fun ρ σ Q X =>
  fo ρ σ (fun vo σ => wAttr σ vo n fun old => f ρ σ (fun v σ => wAdd old v fun v => wSetAttr σ vo n v fun σ => Q .next ρ σ) (X ρ)) (X ρ)
noncomputable def cIf (ft : Loc → Tr Bool) (fa fb : TrS) : TrS := fun ρ σ Q X => ft ρ σ (fun r σ => match r with
  | true => fa ρ σ Q X
  | false => fb ρ σ Q X) (X ρ)
noncomputable def cFor (fi : Loc → Store → ((Store → Prop) → List V → Store → Prop) → (Store → Prop) → Prop) (ft : V → Loc → Tr Loc) (fb : TrS) : TrS := fun ρ σ Q X =>
  fi ρ σ (fun ok vs σ => wLoop ok (fun v ρ σ Q X => ft v ρ σ (fun ρ σ => fb ρ σ Q X) noX) vs ρ σ Q X) (X ρ)
noncomputable def cRet (f : Loc → Tr V) : TrS := fun ρ σ Q X => f ρ σ (fun v σ => Q (.ret v) ρ σ) (X ρ)
noncomputable def cTry (fa fh : TrS) : TrS := fun ρ σ Q X => (∃ ρ σ, X ρ σ) ∧ fa ρ σ Q fun ρ σ => fh ρ σ Q fun u_ u_ => False
inductive DelSubR (σ : Store) : V → V → Store → Prop
  | dict (r : Addr) (es : List (String × V)) (s : String) (hr : σ r = some (.dict es)) (h : (getF es s).isSome ∧ es.length ≤ 100) : DelSubR σ (.ref r) (.str s) (σ.set r (.dict (delF es s)))
noncomputable def wDelSub (σ : Store) (a i : V) (K : Store → Prop) : Prop := Ex2 (DelSubR σ a i) K
inductive DelSliceR (σ : Store) : V → V → Store → Prop
  | ba (r : Addr) (b : List UInt8) (l : Int) (hr : σ r = some (.ba b)) (h : 0 ≤ l ∧ l ≤ b.length ∧ b.length ≤ 1000000) : DelSliceR σ (.ref r) (.int l) (σ.set r (.ba (b.take l.toNat)))
noncomputable def wDelSlice (σ : Store) (a l : V) (K : Store → Prop) : Prop := Ex2 (DelSliceR σ a l) K
noncomputable def cDelSub (fa fi : Loc → Tr V) : TrS := fun ρ σ Q X => fa ρ σ (fun va σ => fi ρ σ (fun vi σ => wDelSub σ va vi fun σ => Q .next ρ σ) (X ρ)) (X ρ)
noncomputable def cDelSlice (fa fi : Loc → Tr V) : TrS := fun ρ σ Q X => fa ρ σ (fun va σ => fi ρ σ (fun vi σ => wDelSlice σ va vi fun σ => Q .next ρ σ) (X ρ)) (X ρ)
noncomputable def cSeq (fa fb : TrS) : TrS := fun ρ σ Q X => fa ρ σ (fun fl ρ σ => match fl with
  | .next => fb ρ σ Q X
  | fl => Q fl ρ σ) X
mutual
noncomputable def wS (call : CallT) : S → TrS
  | .expr e => cExpr (wE call e)
  | .asg t e => cAsg (wE call e) (wTgt call t)
  | .aug i op e => match op with
    | .Add => cAug i (wE call e)
    | _ => fun u_ u_ u_ u_ => False
  | .augA o n op e => match op with
    | .Add => cAugA (wE call o) n (wE call e)
    | _ => fun u_ u_ u_ u_ => False
  | .ifs t a b => cIf (wT call t) (wSs call a) (wSs call b)
  | .for_ t it body => cFor (wIt call it) (wTgt call t) (wSs call body)
  | .ret none => fun ρ σ Q u_ => Q (.ret .none) ρ σ
  | .ret (some e) => cRet (wE call e)
  | .raise_ m => fun ρ σ u_ X => m = "CrashError" ∧ X ρ σ
  | .try_ body h => cTry (wSs call body) (wSs call h)
  | .delSub a i => cDelSub (wE call a) (wE call i)
  | .delSlice a lo => cDelSlice (wE call a) (wE call lo)
  | .cont => fun ρ σ Q u_ => Q .cont ρ σ
noncomputable def wSs (call : CallT) : List S → TrS
  | [] => fun ρ σ Q u_ => Q .next ρ σ
  | s :: r => cSeq (wS call s) (wSs call r)
end
structure Def where
  params : Nat
  dflt : List V := []
  locals : List String
  body : List S
noncomputable def Less (σ' σ : Store) : Prop := ∀ a o, σ' a = some o → σ a = some o
noncomputable def wLess (σ : Store) (K : Store → Prop) : Prop := Ex2 (fun σ' => Less σ' σ) K
noncomputable def wRet (fl : Fl) (σ : Store) (Q : V → Store → Prop) : Prop := match fl with
  | .ret v => wLess σ fun σ => Q v σ
  | .next => wLess σ fun σ => Q .none σ
  | .cont => False
noncomputable def Def.full (d : Def) (args : List V) : List V := args ++ d.dflt.drop (d.dflt.length - (d.params - args.length))
noncomputable def Def.start (d : Def) (args : List V) : Loc := args.map some ++ List.replicate (d.locals.length - d.params) none
noncomputable def wCall (tab : Fn → Def) : Nat → CallT
  | 0, _, _, _, _, _ => False
  | n + 1, f, args, σ, Q, X => ((tab f).full args).length = (tab f).params ∧
    wSs (wCall tab n) (tab f).body ((tab f).start ((tab f).full args)) σ (fun fl u_ σ => wRet fl σ Q) fun u_ σ => wLess σ X
end Mine
end
section
namespace Mine
structure Cx where
  prog : Program
  w : World
  K : Frag
  fnA : Fn → Addr
  clsA : Cls → Addr
  excA : Addr
abbrev Fz := Addr → Option Obj
noncomputable def Fz.set (z : Fz) (a : Addr) (o : Obj) : Fz := fun b => if b = a then some o else z b
noncomputable def Zle (z z' : Fz) : Prop := ∀ a o, z a = some o → z' a = some o
noncomputable def isSeqCls (o : Obj) : Prop := ∃ ws n, o.data = .seq ws n
theorem data_ne {o : Obj} {d e : Data} (h : o.data = d) (k : (d.ctorIdx == e.ctorIdx) = false) : o.data ≠ e := fun q => by
  rw [← h, q, beq_self_eq_true] at k; cases k
theorem not_seq {o : Obj} {d : Data} (h : o.data = d) (k : (d.ctorIdx == 2) = false) : ¬isSeqCls o := fun ⟨a, b, e⟩ => data_ne (e := .seq a b) h k e
noncomputable def Tle (z z' : Fz) : Prop := ∀ a o, z a = some o → isSeqCls o → z' a = some o
theorem Zle.refl (z : Fz) : Zle z z := fun u_ u_ h => h
theorem Zle.trans {a b c : Fz} (x : Zle a b) (y : Zle b c) : Zle a c := fun u_ u_ h => y _ _ (x _ _ h)
theorem Zle.t {z z' : Fz} (x : Zle z z') : Tle z z' := fun u_ u_ h u_ => x _ _ h
theorem Tle.refl (z : Fz) : Tle z z := fun u_ u_ h u_ => h
theorem Tle.trans {a b c : Fz} (x : Tle a b) (y : Tle b c) : Tle a c := fun u_ u_ h k => y _ _ (x _ _ h k) k
theorem Zle.set {z : Fz} {a : Addr} {o : Obj} (h : z a = none) : Zle z (z.set a o) := fun b o' e => by
  unfold Fz.set
  by_cases q : b = a
  · subst q; rw [h] at e; cases e
  · rw [if_neg q]; exact e
theorem Fz.set_self (z : Fz) (a : Addr) (o : Obj) : (z.set a o) a = some o := by simp [Fz.set]
theorem Fz.set_ne (z : Fz) {a b : Addr} (o : Obj) (h : b ≠ a) : (z.set a o) b = z b := by simp [Fz.set, h]
theorem Store.set_self (σ : Store) (a : Addr) (o : O) : (σ.set a o) a = some o := by simp [Store.set]
theorem Store.set_ne (σ : Store) {a b : Addr} (o : O) (h : b ≠ a) : (σ.set a o) b = σ b := by simp [Store.set, h]
mutual
noncomputable def VR (C : Cx) (z : Fz) : V → Value → Prop
  | .none, v => v = .none
  | .bool b, v => v = .bool b
  | .int i, v => ∃ t, v = .int i t
  | .str s, v => ∃ t, v = .str (Str.ofString s) t
  | .bytes b, v => ∃ t, v = .bytes b.toArray t
  | .tup vs, v => ∃ a ws n, v = .ref a ∧ z a = some { cls := .type "tuple", data := .seq ws n } ∧ VRs C z vs ws.toList
  | .list vs, v => ∃ a o ws n, v = .ref a ∧ z a = some o ∧ o.cls = .type "list" ∧ o.data = .seq ws n ∧ VRs C z vs ws.toList
  | .ref a, v => v = .ref a
  | .fn f, v => v = .ref (C.fnA f)
  | .cls c, v => v = .ref (C.clsA c)
  | .bi b, v => v = b
noncomputable def VRs (C : Cx) (z : Fz) : List V → List Value → Prop
  | [], ws => ws = []
  | v :: vs, ws => ∃ w ws', ws = w :: ws' ∧ VR C z v w ∧ VRs C z vs ws'
end
mutual
theorem VR.mono {C : Cx} {z z' : Fz} (t : Tle z z') : ∀ {v : V} {w : Value}, VR C z v w → VR C z' v w
  | .none, _, h => by simpa only [VR] using h
  | .bool _, _, h => by simpa only [VR] using h
  | .int _, _, h => by simpa only [VR] using h
  | .str _, _, h => by simpa only [VR] using h
  | .bytes _, _, h => by simpa only [VR] using h
  | .tup vs, _, h => by
    simp only [VR] at h ⊢
    refine foldg fun G0 fin0 => ?_
    obtain ⟨a, ws, n, e, hz, hs⟩ := h
    refine fin0 ?_
    exact ⟨a, ws, n, e, t _ _ hz ⟨_, _, rfl⟩, VRs.mono t hs⟩
  | .list vs, _, h => by
    simp only [VR] at h ⊢
    refine foldg fun G0 fin0 => ?_
    obtain ⟨a, o, ws, n, e, hz, hc, hd, hs⟩ := h
    refine fin0 ?_
    exact ⟨a, o, ws, n, e, t _ _ hz ⟨_, _, hd⟩, hc, hd, VRs.mono t hs⟩
  | .ref _, _, h => by simpa only [VR] using h
  | .fn _, _, h => by simpa only [VR] using h
  | .cls _, _, h => by simpa only [VR] using h
  | .bi _, _, h => by simpa only [VR] using h
theorem VRs.mono {C : Cx} {z z' : Fz} (t : Tle z z') : ∀ {vs : List V} {ws : List Value}, VRs C z vs ws → VRs C z' vs ws
  | [], _, h => by simpa only [VRs] using h
  | v :: vs, _, h => by
    simp only [VRs] at h ⊢
    refine foldg fun G0 fin0 => ?_
    obtain ⟨w, ws', e, h1, h2⟩ := h
    refine fin0 ?_
    exact ⟨w, ws', e, VR.mono t h1, VRs.mono t h2⟩
end
section
variable {C : Cx} {z : Fz}
theorem VRs.nil : VRs C z [] [] := by simp only [VRs]
theorem VRs.cons {v : V} {w : Value} {vs : List V} {ws : List Value} (h : VR C z v w) (hs : VRs C z vs ws) : VRs C z (v :: vs) (w :: ws) := by
  simp only [VRs]; exact ⟨_, _, rfl, h, hs⟩
theorem VRs.inv {v : V} {vs : List V} {ws : List Value} (h : VRs C z (v :: vs) ws) : ∃ w ws', ws = w :: ws' ∧ VR C z v w ∧ VRs C z vs ws' := by
  simpa only [VRs] using h
theorem VRs.inv0 {ws : List Value} (h : VRs C z [] ws) : ws = [] := by simpa only [VRs] using h
theorem VRs.length {vs : List V} : ∀ {ws : List Value}, VRs C z vs ws → ws.length = vs.length := by
  induction vs with
  | nil => intro _ h; rw [VRs.inv0 h]; rfl
  | cons v vs ih => intro _ h; obtain ⟨w, ws', rfl, _, hs⟩ := VRs.inv h; exact congrArg Nat.succ (ih hs)
theorem VRs.get {vs : List V} : ∀ {ws : List Value}, VRs C z vs ws → ∀ {i : Nat} {v : V}, vs[i]? = some v → ∃ w, ws[i]? = some w ∧ VR C z v w := by
  induction vs with
  | nil => intro _ _ _ _ e; cases e
  | cons x vs ih =>
    intro _ h i v e
    obtain ⟨w, ws', rfl, h1, h2⟩ := VRs.inv h
    cases i with
    | zero => cases e; exact ⟨w, rfl, h1⟩
    | succ i => exact ih h2 e
theorem VRs.append {vs vs' : List V} {ws ws' : List Value} (h : VRs C z vs ws) (h' : VRs C z vs' ws') : VRs C z (vs ++ vs') (ws ++ ws') := by
  induction vs generalizing ws with
  | nil => rw [VRs.inv0 h]; exact h'
  | cons x vs ih => obtain ⟨w, ws', rfl, h1, h2⟩ := VRs.inv h; exact VRs.cons h1 (ih h2)
theorem VRs.drop {vs : List V} : ∀ {ws : List Value} (n : Nat), VRs C z vs ws → VRs C z (vs.drop n) (ws.drop n) := by
  induction vs with
  | nil => intro _ n h; rw [VRs.inv0 h, List.drop_nil, List.drop_nil]; exact VRs.nil
  | cons x vs ih =>
    intro _ n h
    cases n with
    | zero => exact h
    | succ n => obtain ⟨w, ws', rfl, h1, h2⟩ := VRs.inv h; exact ih n h2
theorem VRs.take {vs : List V} : ∀ {ws : List Value} (n : Nat), VRs C z vs ws → VRs C z (vs.take n) (ws.take n) := by
  induction vs with
  | nil => intro _ n h; rw [VRs.inv0 h, List.take_nil, List.take_nil]; exact VRs.nil
  | cons x vs ih =>
    intro _ n h
    obtain ⟨w, ws', rfl, h1, h2⟩ := VRs.inv h
    cases n with
    | zero => exact VRs.nil
    | succ n => exact VRs.cons h1 (ih n h2)
theorem VRs.set {vs : List V} : ∀ {ws : List Value} (n : Nat) {v : V} {w : Value}, VRs C z vs ws → VR C z v w → VRs C z (vs.set n v) (ws.set n w) := by
  induction vs with
  | nil => intro _ n _ _ h _; rw [VRs.inv0 h]; exact VRs.nil
  | cons x vs ih =>
    intro _ n _ _ h h'
    obtain ⟨w, ws', rfl, h1, h2⟩ := VRs.inv h
    cases n with
    | zero => exact VRs.cons h' h2
    | succ n => exact VRs.cons h1 (ih n h2 h')
end
noncomputable def ER (C : Cx) (z : Fz) : List (String × V) → List DictEntry → Prop
  | [], es => es = []
  | p :: r, es => ∃ t val es', es = ⟨PyData.keyHash C.w.params (Str.ofString p.1), .str (Str.ofString p.1) t, val⟩ :: es' ∧ VR C z p.2 val ∧ ER C z r es'
theorem ER.mono {C : Cx} {z z' : Fz} (t : Tle z z') {fs : List (String × V)} : ∀ {es : List DictEntry}, ER C z fs es → ER C z' fs es := by
  induction fs with
  | nil => exact id
  | cons p r ih => exact fun h => h.imp fun u h => h.imp fun v h => h.imp fun es' h => ⟨h.1, h.2.1.mono t, ih h.2.2⟩
noncomputable def KR (C : Cx) (z : Fz) : List (String × V) → List (Str × Value) → Prop
  | [], kvs => kvs = []
  | p :: r, kvs => ∃ val kvs', kvs = (Str.ofString p.1, val) :: kvs' ∧ VR C z p.2 val ∧ KR C z r kvs'
theorem KR.mono {C : Cx} {z z' : Fz} (t : Tle z z') {fs : List (String × V)} : ∀ {es : List (Str × Value)}, KR C z fs es → KR C z' fs es := by
  induction fs with
  | nil => exact id
  | cons p r ih => exact fun h => h.imp fun v h => h.imp fun es' h => ⟨h.1, h.2.1.mono t, ih h.2.2⟩
theorem dictOf_keep {prog : Program} {w : World} {h h' : Heap} {a : Addr} {kvs : List (Str × Value)} (x : h.DictOf (PySem.strKind prog w) a kvs) (k : ∀ o, h.get? a = some o → h'.get? a = some o) : h'.DictOf (PySem.strKind prog w) a kvs := by
  refine foldg fun G0 fin0 => ?_
  obtain ⟨o, es, ep, ho, r⟩ := x
  refine fin0 ?_
  exact ⟨o, es, ep, k o ho, r⟩
noncomputable def CellAt (C : Cx) (z : Fz) (h : Heap) (a : Addr) : O → Prop
  | .inst c fs => ∃ d es n, h.get? a = some (instObj (C.clsA c) d) ∧ h.get? d = some (dictOf es n) ∧ ER C z fs es
  | .list vs => ∃ ws n, h.get? a = some { cls := .type "list", data := .seq ws n } ∧ VRs C z vs ws.toList
  | .dict fs => ∃ kvs, h.DictOf (PySem.strKind C.prog C.w) a kvs ∧ KR C z fs kvs
  | .ba b => h.get? a = some { cls := .type "bytearray", data := .bytearray b.toArray 0 }
theorem CellAt.mono {C : Cx} {z z' : Fz} {h h' : Heap} {a : Addr} (t : Tle z z') (k : ∀ b o, h.get? b = some o → h'.get? b = some o) {o : O} (c : CellAt C z h a o) : CellAt C z' h' a o := by
  cases o with
  | inst => exact c.imp fun d c => c.imp fun es c => c.imp fun n c => ⟨k _ _ c.1, k _ _ c.2.1, c.2.2.mono t⟩
  | list => exact c.imp fun ws c => c.imp fun n c => ⟨k _ _ c.1, c.2.mono t⟩
  | dict => exact c.imp fun kvs c => ⟨dictOf_keep c.1 (k _), c.2.mono t⟩
  | ba => exact k _ _ c
noncomputable def DictOf (h : Heap) (a d : Addr) : Prop := ∃ o, h.get? a = some o ∧ o.dict = some d
structure Sim0 (C : Cx) (base : Heap) (z fr : Fz) (σ : Store) (h : Heap) : Prop where
  bas : ∀ a o, base.get? a = some o → h.get? a = some o
  fz : ∀ a o, z a = some o → h.get? a = some o ∧ base.get? a = none ∧ fr a = none
  cell : ∀ a o, σ a = some o → CellAt C z h a o
  off : ∀ a o, σ a = some o → z a = none ∧ fr a = none ∧ base.get? a = none
  offD : ∀ a c fs d, σ a = some (.inst c fs) → DictOf h a d → z d = none ∧ fr d = none ∧ base.get? d = none ∧ σ d = none
  one : ∀ a c fs a' c' fs' d, σ a = some (.inst c fs) → σ a' = some (.inst c' fs') → DictOf h a d → DictOf h a' d → a' = a
noncomputable def Frs (base : Heap) (fr : Fz) (h : Heap) : Prop := ∀ a o, fr a = some o → (∃ sl, h.get? a = some { o with slots := sl }) ∧ (∀ vs, o.data ≠ .fields vs) ∧ base.get? a = none
structure Sim (C : Cx) (base : Heap) (z fr : Fz) (σ : Store) (h : Heap) : Prop extends Sim0 C base z fr σ h where
  frs : Frs base fr h
theorem DictOf.keep {h h' : Heap} {a d : Addr} {o : Obj} (ho : h.get? a = some o) (k : h'.get? a = some o) (x : DictOf h' a d) : DictOf h a d := by
  obtain ⟨o', e, q⟩ := x
  rw [k] at e; cases e
  exact ⟨o, ho, q⟩
theorem CellAt.there {C : Cx} {z : Fz} {h : Heap} {a : Addr} {o : O} (c : CellAt C z h a o) : ∃ ob, h.get? a = some ob := by
  cases o with
  | inst => obtain ⟨_, _, _, h1, _⟩ := c; exact ⟨_, h1⟩
  | list => obtain ⟨_, _, h1, _⟩ := c; exact ⟨_, h1⟩
  | dict => obtain ⟨_, ⟨o, _, _, h1, _⟩, _⟩ := c; exact ⟨o, h1⟩
  | ba => exact ⟨_, c⟩
theorem Sim0.keep {C : Cx} {base : Heap} {z fr : Fz} {σ : Store} {h h' : Heap} (S : Sim0 C base z fr σ h) (k : ∀ b o, h.get? b = some o → h'.get? b = some o) : Sim0 C base z fr σ h' where
  bas := fun a o e => k _ _ (S.bas a o e)
  fz := fun a o e => ⟨k _ _ (S.fz a o e).1, (S.fz a o e).2⟩
  cell := fun a o e => (S.cell a o e).mono (Tle.refl z) k
  off := S.off
  offD := fun a c fs d e x => by
    obtain ⟨ob, ho⟩ := (S.cell a _ e).there
    exact S.offD a c fs d e (x.keep ho (k _ _ ho))
  one := fun a c fs a' c' fs' d e e' x x' => by
    obtain ⟨ob, ho⟩ := (S.cell a _ e).there
    obtain ⟨ob', ho'⟩ := (S.cell a' _ e').there
    exact S.one a c fs a' c' fs' d e e' (x.keep ho (k _ _ ho)) (x'.keep ho' (k _ _ ho'))
theorem Sim.keep {C : Cx} {base : Heap} {z fr : Fz} {σ : Store} {h h' : Heap} (S : Sim C base z fr σ h) (k : ∀ b o, h.get? b = some o → h'.get? b = some o) : Sim C base z fr σ h' :=
  { S.toSim0.keep k with frs := fun a o e => by obtain ⟨⟨sl, x⟩, y⟩ := S.frs a o e; exact ⟨⟨sl, k _ _ x⟩, y⟩ }
noncomputable def Own (σ : Store) (h : Heap) (b : Addr) : Prop := (∃ o, σ b = some o) ∨ ∃ a c fs, σ a = some (.inst c fs) ∧ DictOf h a b
theorem get_ne {h : Heap} {a b : Addr} {o : Obj} (ha : h.get? a = none) (hb : h.get? b = some o) : b ≠ a := fun e => by rw [e, ha] at hb; cases hb
theorem Sim.less {C : Cx} {base : Heap} {z fr : Fz} {σ σ' : Store} {h : Heap} (S : Sim C base z fr σ h) (l : Less σ' σ) : Sim C base z fr σ' h where
  bas := S.bas
  fz := S.fz
  cell := fun a o e => S.cell a o (l _ _ e)
  off := fun a o e => S.off a o (l _ _ e)
  offD := fun a c fs d e x => by
    obtain ⟨h1, h2, h3, h4⟩ := S.offD a c fs d (l _ _ e) x
    refine ⟨h1, h2, h3, ?_⟩
    cases q : σ' d with
    | none => rfl
    | some o => rw [l _ _ q] at h4; cases h4
  one := fun a c fs a' c' fs' d e e' => S.one a c fs a' c' fs' d (l _ _ e) (l _ _ e')
  frs := S.frs
theorem Sim.freeze {C : Cx} {base : Heap} {z fr : Fz} {σ : Store} {h : Heap} {a : Addr} {o : Obj} (S : Sim C base z fr σ h) (ho : h.get? a = some o)
    (hz : z a = none) (hf : fr a = none) (hb : base.get? a = none) (hs : ¬ Own σ h a) : Sim C base (z.set a o) fr σ h where
  bas := S.bas
  fz := fun b p e => by
    by_cases q : b = a
    · subst q; rw [Fz.set_self] at e; cases e; exact ⟨ho, hb, hf⟩
    · rw [Fz.set_ne _ _ q] at e; exact S.fz b p e
  cell := fun b p e => (S.cell b p e).mono (Zle.set hz).t fun u_ u_ x => x
  off := fun b p e => by
    have q : b ≠ a := fun q => hs (.inl ⟨p, q ▸ e⟩)
    rw [Fz.set_ne _ _ q]; exact S.off b p e
  offD := fun b c fs d e x => by
    have q : d ≠ a := fun q => hs (.inr ⟨b, c, fs, e, q ▸ x⟩)
    rw [Fz.set_ne _ _ q]; exact S.offD b c fs d e x
  one := S.one
  frs := S.frs
theorem Sim.new_off {C : Cx} {base : Heap} {z fr : Fz} {σ : Store} {h : Heap} {a : Addr} (S : Sim C base z fr σ h) (ha : h.get? a = none) :
    z a = none ∧ fr a = none ∧ base.get? a = none ∧ σ a = none ∧ ¬ Own σ h a := by
  have nb : base.get? a = none := by
    cases q : base.get? a with
    | none => rfl
    | some o => have := S.bas a o q; rw [ha] at this; cases this
  have nz : z a = none := by
    cases q : z a with
    | none => rfl
    | some o => have := (S.fz a o q).1; rw [ha] at this; cases this
  have nf : fr a = none := by
    cases q : fr a with
    | none => rfl
    | some o => obtain ⟨⟨sl, x⟩, _⟩ := S.frs a o q; rw [ha] at x; cases x
  have ns : σ a = none := by
    cases q : σ a with
    | none => rfl
    | some o => obtain ⟨ob, x⟩ := (S.cell a o q).there; rw [ha] at x; cases x
  refine ⟨nz, nf, nb, ns, ?_⟩
  rintro (⟨o, e⟩ | ⟨b, c, fs, e, ob, x, q⟩)
  · rw [ns] at e; cases e
  · obtain ⟨d, es, n, h1, h2, h3⟩ := S.cell b _ e
    rw [h1] at x; cases x; cases q
    rw [ha] at h2; cases h2
theorem get_size (h : Heap) : h.get? h.objs.size = none := by
  cases q : h.get? h.objs.size with
  | none => rfl
  | some o => exact absurd (Heap.lt_size q) (Nat.lt_irrefl _)
end Mine
end
section
namespace Mine
section
variable {C : Cx} {base : Heap} {z fr : Fz} {σ : Store} {h h' : Heap}
theorem nope {α : Type} {f : Addr → Option α} {a b : Addr} {x : α} (h : f a = none) (q : f b = some x) (r : b = a) : False := by rw [r, h] at q; cases q
theorem none_ne {α : Type} {f : Addr → Option α} {a b : Addr} {x : α} (h : f a = none) (q : f b = some x) : b ≠ a := nope h q
theorem CellAt.turn {z' : Fz} {a : Addr} {o : O} (T : Tle z z') (hx : CellAt C z h a o) (ka : ∀ ob, h.get? a = some ob → h'.get? a = some ob) (kd : ∀ c fs d, o = .inst c fs → DictOf h a d → ∀ ob, h.get? d = some ob → h'.get? d = some ob) : CellAt C z' h' a o := by
  cases o with
  | inst c fs =>
    obtain ⟨d, es, n, h1, h2, h3⟩ := hx
    exact ⟨d, es, n, ka _ h1, kd c fs d rfl ⟨_, h1, rfl⟩ _ h2, h3.mono T⟩
  | list vs => obtain ⟨ws, n, h1, h2⟩ := hx; exact ⟨ws, n, ka _ h1, h2.mono T⟩
  | dict fs => obtain ⟨kvs, h1, h2⟩ := hx; exact ⟨kvs, dictOf_keep h1 ka, h2.mono T⟩
  | ba b => exact ka _ hx
theorem Sim.back {x d : Addr} {o : O} (S : Sim C base z fr σ h) (e : σ x = some o) (k : ∀ ob, h.get? x = some ob → h'.get? x = some ob) (dd : DictOf h' x d) : DictOf h x d := by
  obtain ⟨ob, ho⟩ := (S.cell x _ e).there
  exact dd.keep ho (k _ ho)
theorem Sim.updCell {a : Addr} {o o' : O} (S : Sim C base z fr σ h) (hσ : σ a = some o) (hn : ∀ c fs, o ≠ .inst c fs) (hn' : ∀ c fs, o' ≠ .inst c fs)
    (k : ∀ x ob, x ≠ a → h.get? x = some ob → h'.get? x = some ob) (hc : CellAt C z h' a o') : Sim C base z fr (σ.set a o') h' := by
  obtain ⟨az, af, ab⟩ := S.off a o hσ
  have keepB : ∀ x o, σ x = some o → x ≠ a → CellAt C z h' x o := fun x o e q => (S.cell x o e).turn (Tle.refl z) (fun u_ => k _ _ q) fun c fs d eo dd u_ => k _ _ fun r => nope (S.offD x c fs d (eo ▸ e) dd).2.2.2 hσ r.symm
  have inst_ne : ∀ x c fs, (σ.set a o') x = some (.inst c fs) → x ≠ a ∧ σ x = some (.inst c fs) := fun x c fs e => by
    by_cases q : x = a
    · subst q; rw [Store.set_self] at e; cases e; exact absurd rfl (hn' _ _)
    · rw [Store.set_ne _ _ q] at e; exact ⟨q, e⟩
  have dict_same : ∀ x c fs d, x ≠ a → σ x = some (.inst c fs) → DictOf h' x d → DictOf h x d := fun x c fs d q e dd => S.back e (fun u_ => k _ _ q) dd
  refine { bas := fun x ob e => k _ _ (none_ne ab e) (S.bas x ob e), fz := fun x ob e => ⟨k _ _ (none_ne az e) (S.fz x ob e).1, (S.fz x ob e).2⟩,
           cell := fun x ob e => ?_, off := fun x ob e => ?_, offD := fun x c fs d e dd => ?_, one := fun x c fs x' c' fs' d e e' dd dd' => ?_, frs := fun x ob e => ?_ }
  · by_cases q : x = a
    · subst q; rw [Store.set_self] at e; cases e; exact hc
    · rw [Store.set_ne _ _ q] at e; exact keepB x ob e q
  · by_cases q : x = a
    · subst q; exact ⟨az, af, ab⟩
    · rw [Store.set_ne _ _ q] at e; exact S.off x ob e
  · obtain ⟨q, e⟩ := inst_ne x c fs e
    obtain ⟨h1, h2, h3, h4⟩ := S.offD x c fs d e (dict_same x c fs d q e dd)
    refine ⟨h1, h2, h3, ?_⟩
    rw [Store.set_ne _ _ (fun z => by rw [z, hσ] at h4; cases h4)]; exact h4
  · obtain ⟨q, e⟩ := inst_ne x c fs e
    obtain ⟨q', e'⟩ := inst_ne x' c' fs' e'
    exact S.one x c fs x' c' fs' d e e' (dict_same _ _ _ _ q e dd) (dict_same _ _ _ _ q' e' dd')
  · obtain ⟨⟨sl, e1⟩, e2, e3⟩ := S.frs x ob e
    exact ⟨⟨sl, k _ _ (none_ne af e) e1⟩, e2, e3⟩
theorem Sim.updInst {a d : Addr} {c : Cls} {fs fs' : List (String × V)} {es : List DictEntry} {n : Nat} (S : Sim C base z fr σ h) (hσ : σ a = some (.inst c fs)) (hd : DictOf h a d)
    (k : ∀ x ob, x ≠ d → h.get? x = some ob → h'.get? x = some ob) (hg : h'.get? d = some (dictOf es n)) (hr : ER C z fs' es) : Sim C base z fr (σ.set a (.inst c fs')) h' := by
  obtain ⟨dz, df, db, ds⟩ := S.offD a c fs d hσ hd
  have ad : a ≠ d := fun q => by rw [← q, hσ] at ds; cases ds
  have keepB : ∀ x o, σ x = some o → x ≠ a → CellAt C z h' x o := fun x o e q => (S.cell x o e).turn (Tle.refl z) (fun u_ => k _ _ (none_ne ds e)) fun c' fs' d' eo dd u_ => k _ _ fun r => q (S.one a c fs x c' fs' d hσ (eo ▸ e) hd (r ▸ dd))
  have dict_same : ∀ x c fs d', σ x = some (.inst c fs) → DictOf h' x d' → DictOf h x d' := fun x c fs d' e dd => S.back e (fun u_ => k _ _ (none_ne ds e)) dd
  have inst_of : ∀ x c' fs'', (σ.set a (.inst c fs')) x = some (.inst c' fs'') → ∃ fs₀, σ x = some (.inst c' fs₀) := fun x c' fs'' e => by
    by_cases q : x = a
    · subst q; rw [Store.set_self] at e; cases e; exact ⟨_, hσ⟩
    · rw [Store.set_ne _ _ q] at e; exact ⟨_, e⟩
  refine { bas := fun x ob e => k _ _ (none_ne db e) (S.bas x ob e), fz := fun x ob e => ⟨k _ _ (none_ne dz e) (S.fz x ob e).1, (S.fz x ob e).2⟩,
           cell := fun x ob e => ?_, off := fun x ob e => ?_, offD := fun x c' fs'' d' e dd => ?_, one := fun x c₁ fs₁ x' c₂ fs₂ d' e e' dd dd' => ?_, frs := fun x ob e => ?_ }
  · by_cases q : x = a
    · subst q; rw [Store.set_self] at e; cases e
      obtain ⟨d', es', n', h1, h2, h3⟩ := S.cell x _ hσ
      have : d' = d := by
        obtain ⟨ob, e1, e2⟩ := hd
        rw [h1] at e1; cases e1; exact Option.some.inj e2
      subst this
      exact ⟨d', es, n, k _ _ ad h1, hg, hr⟩
    · rw [Store.set_ne _ _ q] at e; exact keepB x ob e q
  · by_cases q : x = a
    · subst q; exact S.off x _ hσ
    · rw [Store.set_ne _ _ q] at e; exact S.off x ob e
  · obtain ⟨fs₀, e⟩ := inst_of x c' fs'' e
    obtain ⟨h1, h2, h3, h4⟩ := S.offD x c' fs₀ d' e (dict_same x _ _ _ e dd)
    refine ⟨h1, h2, h3, ?_⟩
    rw [Store.set_ne _ _ (fun z => by rw [z, hσ] at h4; cases h4)]; exact h4
  · obtain ⟨fa, e⟩ := inst_of _ _ _ e
    obtain ⟨fb, e'⟩ := inst_of _ _ _ e'
    exact S.one x c₁ fa x' c₂ fb d' e e' (dict_same _ _ _ _ e dd) (dict_same _ _ _ _ e' dd')
  · obtain ⟨⟨sl, e1⟩, e2, e3⟩ := S.frs x ob e
    exact ⟨⟨sl, k _ _ (none_ne df e) e1⟩, e2, e3⟩
theorem Sim.newCell {a : Addr} {o : O} (S : Sim C base z fr σ h) (ha : h.get? a = none) (k : ∀ x ob, h.get? x = some ob → h'.get? x = some ob) (hn : ∀ c fs, o ≠ .inst c fs)
    (hc : CellAt C z h' a o) : Sim C base z fr (σ.set a o) h' := by
  obtain ⟨nz, nf, nb, ns, no⟩ := S.new_off ha
  have S' := S.keep k
  have inst_ne : ∀ x c fs, (σ.set a o) x = some (.inst c fs) → x ≠ a ∧ σ x = some (.inst c fs) := fun x c fs e => by
    by_cases q : x = a
    · subst q; rw [Store.set_self] at e; cases e; exact absurd rfl (hn _ _)
    · rw [Store.set_ne _ _ q] at e; exact ⟨q, e⟩
  have back : ∀ x c fs d, σ x = some (.inst c fs) → DictOf h' x d → DictOf h x d := fun x c fs d e dd => S.back e (fun u_ => k _ _) dd
  refine { bas := S'.bas, fz := S'.fz, cell := fun x ob e => ?_, off := fun x ob e => ?_, offD := fun x c fs d e dd => ?_, one := fun x c fs x' c' fs' d e e' dd dd' => ?_, frs := S'.frs }
  · by_cases q : x = a
    · subst q; rw [Store.set_self] at e; cases e; exact hc
    · rw [Store.set_ne _ _ q] at e; exact S'.cell x ob e
  · by_cases q : x = a
    · subst q; exact ⟨nz, nf, nb⟩
    · rw [Store.set_ne _ _ q] at e; exact S.off x ob e
  · obtain ⟨q, e⟩ := inst_ne x c fs e
    obtain ⟨h1, h2, h3, h4⟩ := S'.offD x c fs d e dd
    refine ⟨h1, h2, h3, ?_⟩
    have : d ≠ a := fun z => no (.inr ⟨x, c, fs, e, z ▸ back _ _ _ _ e dd⟩)
    rw [Store.set_ne _ _ this]; exact h4
  · obtain ⟨q, e⟩ := inst_ne x c fs e
    obtain ⟨q', e'⟩ := inst_ne x' c' fs' e'
    exact S'.one x c fs x' c' fs' d e e' dd dd'
theorem Sim.newInst {a d : Addr} {c : Cls} (S : Sim C base z fr σ h) (ha : h.get? a = none) (hd : h.get? d = none) (ad : a ≠ d) (k : ∀ x ob, h.get? x = some ob → h'.get? x = some ob)
    (g1 : h'.get? a = some (instObj (C.clsA c) d)) (g2 : h'.get? d = some (dictOf [] 0)) : Sim C base z fr (σ.set a (.inst c [])) h' := by
  obtain ⟨nz, nf, nb, ns, no⟩ := S.new_off ha
  obtain ⟨mz, mf, mb, ms, mo⟩ := S.new_off hd
  have S' := S.keep k
  have back : ∀ x c fs d, σ x = some (.inst c fs) → DictOf h' x d → DictOf h x d := fun x c fs d e dd => S.back e (fun u_ => k _ _) dd
  have dd : ∀ d', DictOf h' a d' → d' = d := fun d' x => by
    obtain ⟨ob, e1, e2⟩ := x
    rw [g1] at e1; cases e1; exact (Option.some.inj e2).symm
  refine { bas := S'.bas, fz := S'.fz, cell := fun x ob e => ?_, off := fun x ob e => ?_, offD := fun x c' fs d' e x' => ?_, one := fun x c₁ fs₁ x' c₂ fs₂ d' e e' y y' => ?_, frs := S'.frs }
  · by_cases q : x = a
    · subst q; rw [Store.set_self] at e; cases e; exact ⟨d, [], 0, g1, g2, rfl⟩
    · rw [Store.set_ne _ _ q] at e; exact S'.cell x ob e
  · by_cases q : x = a
    · subst q; exact ⟨nz, nf, nb⟩
    · rw [Store.set_ne _ _ q] at e; exact S.off x ob e
  · by_cases q : x = a
    · subst q
      rw [dd d' x']
      exact ⟨mz, mf, mb, by rw [Store.set_ne _ _ (Ne.symm ad)]; exact ms⟩
    · rw [Store.set_ne _ _ q] at e
      obtain ⟨h1, h2, h3, h4⟩ := S'.offD x c' fs d' e x'
      refine ⟨h1, h2, h3, ?_⟩
      have : d' ≠ a := fun z => no (.inr ⟨x, c', fs, e, z ▸ back _ _ _ _ e x'⟩)
      rw [Store.set_ne _ _ this]; exact h4
  · by_cases q : x = a
    · subst q
      by_cases q' : x' = x
      · exact q'
      · rw [Store.set_ne _ _ q'] at e'
        rw [dd d' y] at y'
        exact absurd (Or.inr ⟨x', c₂, fs₂, e', back _ _ _ _ e' y'⟩) mo
    · rw [Store.set_ne _ _ q] at e
      by_cases q' : x' = a
      · subst q'
        rw [dd d' y'] at y
        exact absurd (Or.inr ⟨x, c₁, fs₁, e, back _ _ _ _ e y⟩) mo
      · rw [Store.set_ne _ _ q'] at e'
        exact S'.one x c₁ fs₁ x' c₂ fs₂ d' e e' y y'
theorem Sim.setFr {L : Addr} {o o' : Obj} (S : Sim C base z fr σ h) (hL : fr L = some o) (k : ∀ x ob, x ≠ L → h.get? x = some ob → h'.get? x = some ob)
    (hg : h'.get? L = some o') (hd : ∀ vs, o'.data ≠ .fields vs) : Sim C base z (fr.set L o') σ h' := by
  have Lz : ∀ ob, z L ≠ some ob := fun ob e => by have := (S.fz L ob e).2.2; rw [hL] at this; cases this
  have Lb := (S.frs L o hL).2.2
  have Ls : σ L = none := by
    cases q : σ L with
    | none => rfl
    | some ob => have := (S.off L ob q).2.1; rw [hL] at this; cases this
  have Ld : ∀ x c fs, σ x = some (.inst c fs) → ¬ DictOf h x L := fun x c fs e dd => by
    have := (S.offD x c fs L e dd).2.1; rw [hL] at this; cases this
  have nLs : ∀ x o, σ x = some o → x ≠ L := fun x o e => none_ne Ls e
  have fne : ∀ x, x ≠ L → (fr.set L o') x = fr x := fun x q => Fz.set_ne _ _ q
  have cellK : ∀ x o, σ x = some o → CellAt C z h' x o := fun x o e => (S.cell x o e).turn (Tle.refl z) (fun u_ => k _ _ (nLs x o e)) fun c fs d eo dd u_ => k _ _ fun r => Ld x c fs (eo ▸ e) (r ▸ dd)
  have back : ∀ x c fs d, σ x = some (.inst c fs) → DictOf h' x d → DictOf h x d := fun x c fs d e dd => S.back e (fun u_ => k _ _ (nLs x _ e)) dd
  refine { bas := fun x ob e => k _ _ (none_ne Lb e) (S.bas x ob e), fz := fun x ob e => ?_, cell := cellK, off := fun x ob e => ?_, offD := fun x c fs d e dd => ?_,
           one := fun x c fs x' c' fs' d e e' dd dd' => S.one x c fs x' c' fs' d e e' (back _ _ _ _ e dd) (back _ _ _ _ e' dd'), frs := fun x ob e => ?_ }
  · have q : x ≠ L := fun q => Lz ob (q ▸ e)
    rw [fne x q]
    exact ⟨k _ _ q (S.fz x ob e).1, (S.fz x ob e).2⟩
  · rw [fne x (nLs x ob e)]; exact S.off x ob e
  · have dd' := back _ _ _ _ e dd
    rw [fne d (fun z => Ld x c fs e (z ▸ dd'))]; exact S.offD x c fs d e dd'
  · by_cases q : x = L
    · subst q; rw [Fz.set_self] at e; cases e; exact ⟨⟨_, hg⟩, hd, Lb⟩
    · rw [fne x q] at e
      obtain ⟨⟨sl, e1⟩, e2, e3⟩ := S.frs x ob e
      exact ⟨⟨sl, k _ _ q e1⟩, e2, e3⟩
theorem Sim.newFr {L : Addr} {o : Obj} (S : Sim C base z fr σ h) (hL : h.get? L = none) (k : ∀ x ob, h.get? x = some ob → h'.get? x = some ob)
    (hg : h'.get? L = some o) (hd : ∀ vs, o.data ≠ .fields vs) : Sim C base z (fr.set L o) σ h' := by
  refine foldg fun G0 fin0 => ?_
  obtain ⟨nz, nf, nb, ns, no⟩ := S.new_off hL
  refine fin0 ?_
  have S' := S.keep k
  have fne : ∀ x, x ≠ L → (fr.set L o) x = fr x := fun x q => Fz.set_ne _ _ q
  have back : ∀ x c fs d, σ x = some (.inst c fs) → DictOf h' x d → DictOf h x d := fun x c fs d e dd => S.back e (fun u_ => k _ _) dd
  refine { bas := S'.bas, fz := fun x ob e => ?_, cell := S'.cell, off := fun x ob e => ?_, offD := fun x c fs d e dd => ?_, one := S'.one, frs := fun x ob e => ?_ }
  · rw [fne x (fun q => by rw [q, nz] at e; cases e)]; exact S'.fz x ob e
  · rw [fne x (fun q => by rw [q, ns] at e; cases e)]; exact S'.off x ob e
  · rw [fne d (fun q => no (.inr ⟨x, c, fs, e, q ▸ back _ _ _ _ e dd⟩))]; exact S'.offD x c fs d e dd
  · by_cases q : x = L
    · subst q; rw [Fz.set_self] at e; cases e; exact ⟨⟨_, hg⟩, hd, nb⟩
    · rw [fne x q] at e; exact S'.frs x ob e
theorem Sim.lessFr {fr' : Fz} (S : Sim C base z fr σ h) (l : ∀ a o, fr' a = some o → ∃ o', fr a = some o' ∧ ∃ sl, o' = { o with slots := sl }) : Sim C base z fr' σ h := by
  have none_of : ∀ a, fr a = none → fr' a = none := fun a e => by
    cases q : fr' a with
    | none => rfl
    | some o => obtain ⟨o', x, _⟩ := l a o q; rw [e] at x; cases x
  exact { bas := S.bas, fz := fun a o e => ⟨(S.fz a o e).1, (S.fz a o e).2.1, none_of _ (S.fz a o e).2.2⟩, cell := S.cell,
          off := fun a o e => ⟨(S.off a o e).1, none_of _ (S.off a o e).2.1, (S.off a o e).2.2⟩,
          offD := fun a c fs d e dd => ⟨(S.offD a c fs d e dd).1, none_of _ (S.offD a c fs d e dd).2.1, (S.offD a c fs d e dd).2.2⟩, one := S.one,
          frs := fun a o e => by
            refine foldg fun G0 fin0 => ?_
            obtain ⟨o', x, sl, rfl⟩ := l a o e
            obtain ⟨⟨sl', y⟩, y2, y3⟩ := S.frs a _ x
            refine fin0 ?_
            exact ⟨⟨sl', y⟩, y2, y3⟩ }
theorem Sim.setZs {z' : Fz} {P : Addr → Prop} (S : Sim C base z fr σ h) (hp : ∀ p, P p → ∃ o, z p = some o ∧ ¬ isSeqCls o) (same : ∀ x, ¬ P x → z' x = z x) (k : ∀ x ob, ¬ P x → h.get? x = some ob → h'.get? x = some ob)
    (hg : ∀ p o', P p → z' p = some o' → h'.get? p = some o') : Sim C base z' fr σ h' ∧ Tle z z' := by
  have np : ∀ x, z x = none → ¬ P x := fun x e q => by obtain ⟨o, q, _⟩ := hp x q; exact nope e q rfl
  have T : Tle z z' := fun a ob e q => (same a fun w => by obtain ⟨o, r, n⟩ := hp a w; rw [e] at r; cases r; exact n q).trans e
  have nb : ∀ x ob, base.get? x = some ob → ¬ P x := fun x ob e q => by obtain ⟨o, q, _⟩ := hp x q; exact nope (S.fz x o q).2.1 e rfl
  have nf : ∀ x ob, fr x = some ob → ¬ P x := fun x ob e q => by obtain ⟨o, q, _⟩ := hp x q; exact nope (S.fz x o q).2.2 e rfl
  have ps : ∀ x ob, σ x = some ob → ¬ P x := fun x ob e => np x (S.off x ob e).1
  have pd : ∀ x c fs d, σ x = some (.inst c fs) → DictOf h x d → ¬ P d := fun x c fs d e dd => np d (S.offD x c fs d e dd).1
  have back : ∀ x c fs d, σ x = some (.inst c fs) → DictOf h' x d → DictOf h x d := fun x c fs d e dd => S.back e (fun u_ => k _ _ (ps x _ e)) dd
  refine ⟨{ bas := fun x ob e => k _ _ (nb x ob e) (S.bas x ob e), fz := fun x ob e => ?_, cell := fun x o e => ?_, off := fun x ob e => ?_, offD := fun x c fs d e dd => ?_,
            one := fun x c fs x' c' fs' d e e' dd dd' => S.one x c fs x' c' fs' d e e' (back _ _ _ _ e dd) (back _ _ _ _ e' dd'), frs := fun x ob e => ?_ }, T⟩
  · by_cases q : P x
    · obtain ⟨o, r, _⟩ := hp x q
      exact ⟨hg x ob q e, (S.fz x o r).2⟩
    · rw [same x q] at e; exact ⟨k _ _ q (S.fz x ob e).1, (S.fz x ob e).2⟩
  · exact (S.cell x o e).turn T (fun u_ => k _ _ (ps x o e)) fun c fs d eo dd u_ => k _ _ (pd x c fs d (eo ▸ e) dd)
  · rw [same x (ps x ob e)]; exact S.off x ob e
  · have dd' := back _ _ _ _ e dd
    rw [same d (pd x c fs d e dd')]; exact S.offD x c fs d e dd'
  · obtain ⟨⟨sl, e1⟩, e2, e3⟩ := S.frs x ob e
    exact ⟨⟨sl, k _ _ (nf x ob e) e1⟩, e2, e3⟩
theorem Sim.setZ {p : Addr} {o o' : Obj} (S : Sim C base z fr σ h) (hp : z p = some o) (hs : ¬ isSeqCls o) (k : ∀ x ob, x ≠ p → h.get? x = some ob → h'.get? x = some ob)
    (hg : h'.get? p = some o') : Sim C base (z.set p o') fr σ h' ∧ Tle z (z.set p o') :=
  S.setZs (P := (· = p)) (fun u_ e => e ▸ ⟨o, hp, hs⟩) (fun u_ e => Fz.set_ne _ _ e) k fun q ob e w => by rw [e, Fz.set_self] at w; cases w; rw [e]; exact hg
end
theorem Sim.lessZ {C : Cx} {base : Heap} {z z' fr : Fz} {σ : Store} {h : Heap} (S : Sim C base z fr σ h) (l : Zle z' z) (t : Tle z z') : Sim C base z' fr σ h := by
  have none_of : ∀ a, z a = none → z' a = none := fun a e => by
    cases q : z' a with
    | none => rfl
    | some o => have := l a o q; rw [e] at this; cases this
  exact { bas := S.bas, fz := fun a o e => S.fz a o (l a o e), cell := fun a o e => (S.cell a o e).mono t fun u_ u_ x => x,
          off := fun a o e => ⟨none_of _ (S.off a o e).1, (S.off a o e).2⟩, offD := fun a c fs d e dd => ⟨none_of _ (S.offD a c fs d e dd).1, (S.offD a c fs d e dd).2⟩, one := S.one, frs := S.frs }
end Mine
end
section
namespace Mine
abbrev Names := List (Str × NameKind)
abbrev Vis := List (Nat × Str)
noncomputable def attrNames : List String := ["disk", "name", "page_size", "nonce", "count", "safe", "levels", "slots", "told_marks", "synced", "pending", "now", "numbers", "told", "sector", "room", "files", "steps", "crash_at", "shared", "locks"]
noncomputable def constR : V → Const → Bool
  | .none, c => c == .none
  | .bool a, c => c == .bool a
  | .int a, c => c == .int a
  | .str a, c => c == .str (Str.ofString a)
  | .bytes a, c => c == .bytes a
  | _, _ => false
noncomputable def notStar (x : PySem.Expr) : Bool := x.ctorIdx != 22
noncomputable def notSlice (x : PySem.Expr) : Bool := x.ctorIdx != 26
noncomputable def notCallOfAttr (x : PySem.Expr) : Bool := x.ctorIdx != 20
noncomputable def notSet (x : PySem.Expr) : Bool := x.ctorIdx != 7
noncomputable def notComp (x : PySem.Expr) : Bool := x.ctorIdx != 8 && x.ctorIdx != 9 && x.ctorIdx != 10
noncomputable def innerNames (ns : Names) (sc : Scope) : Names := sc.names.map fun p => if p.2 == .free && ns.lookup p.1 == some .cell then (p.1, .cell) else p
noncomputable def innerVis (ns : Names) (vis : Vis) (i : Nat) (x : Str) (sc : Scope) : Vis := (i, x) :: vis.filter fun p => ns.lookup p.2 == some .cell && sc.names.lookup p.2 == some .free && p.2 != x && p.1 != i
noncomputable def scopeOk (ns : Names) (vis : Vis) (i : Nat) (x : Str) (sc : Scope) : Bool :=
  sc.kind == .function && sc.names.lookup x == some .local && sc.names.all (fun p => p.2 != .cell && (p.2 != .free || ns.lookup p.1 == some .cell) && (p.2 != .local || sc.names.lookup p.1 == some .local))
section
variable {α : Type}
noncomputable def asOne : (l : List α) → Option {a : α // l = [a]}
  | [a] => some ⟨a, rfl⟩
  | _ => none
noncomputable def asTwo : (l : List α) → Option {p : α × α // l = [p.1, p.2]}
  | [a, b] => some ⟨(a, b), rfl⟩
  | _ => none
noncomputable def withA {P : α → Prop} : Option {a // P a} → (α → Bool) → Bool
  | none, _ => false
  | some a, f => f a.1
theorem any_at {P : α → Prop} {o : Option {a // P a}} {f : α → Bool} (h : withA o f = true) : ∃ a, P a ∧ f a = true := by
  cases o with
  | none => cases h
  | some a => exact ⟨a.1, a.2, h⟩
end
noncomputable def asRef (v : Value) : Option {a : Addr // v = .ref a} := if h : v.ctorIdx = 10 then Value.ref.elim v h fun a => some ⟨a, rfl⟩ else none
noncomputable def asConst (x : PySem.Expr) : Option {p : Const × Nat × Pos // x = .Constant p.1 p.2.1 p.2.2} :=
  if h : x.ctorIdx = 19 then PySem.Expr.Constant.elim x h fun a b c => some ⟨(a, b, c), rfl⟩ else none
noncomputable def asName (x : PySem.Expr) : Option {p : Str × Pos // x = .Name p.1 p.2} :=
  if h : x.ctorIdx = 23 then PySem.Expr.Name.elim x h fun a b => some ⟨(a, b), rfl⟩ else none
noncomputable def asBin (x : PySem.Expr) : Option {p : PySem.Expr × Operator × PySem.Expr × Pos // x = .BinOp p.1 p.2.1 p.2.2.1 p.2.2.2} :=
  if h : x.ctorIdx = 2 then PySem.Expr.BinOp.elim x h fun a b c d => some ⟨(a, b, c, d), rfl⟩ else none
noncomputable def asUn (op : UnaryOp) (x : PySem.Expr) : Option {p : PySem.Expr × Pos // x = .UnaryOp op p.1 p.2} :=
  if h : x.ctorIdx = 3 then PySem.Expr.UnaryOp.elim x h fun o a b => if h : o = op then some ⟨(a, b), by rw [h]⟩ else none else none
noncomputable def asBop (x : PySem.Expr) : Option {p : BoolOp × List PySem.Expr × Pos // x = .BoolOp p.1 p.2.1 p.2.2} :=
  if h : x.ctorIdx = 0 then PySem.Expr.BoolOp.elim x h fun a b c => some ⟨(a, b, c), rfl⟩ else none
noncomputable def asCmp (x : PySem.Expr) : Option {p : PySem.Expr × List CmpOp × List PySem.Expr × Pos // x = .Compare p.1 p.2.1 p.2.2.1 p.2.2.2} :=
  if h : x.ctorIdx = 15 then PySem.Expr.Compare.elim x h fun a b c d => some ⟨(a, b, c, d), rfl⟩ else none
noncomputable def asIte (x : PySem.Expr) : Option {p : PySem.Expr × PySem.Expr × PySem.Expr × Pos // x = .IfExp p.1 p.2.1 p.2.2.1 p.2.2.2} :=
  if h : x.ctorIdx = 5 then PySem.Expr.IfExp.elim x h fun a b c d => some ⟨(a, b, c, d), rfl⟩ else none
noncomputable def asAttr (x : PySem.Expr) : Option {p : PySem.Expr × Str × Pos // x = .Attribute p.1 p.2.1 p.2.2} :=
  if h : x.ctorIdx = 20 then PySem.Expr.Attribute.elim x h fun a b c => some ⟨(a, b, c), rfl⟩ else none
noncomputable def asSub (x : PySem.Expr) : Option {p : PySem.Expr × PySem.Expr × Pos // x = .Subscript p.1 p.2.1 p.2.2} :=
  if h : x.ctorIdx = 21 then PySem.Expr.Subscript.elim x h fun a b c => some ⟨(a, b, c), rfl⟩ else none
noncomputable def asSl (x : PySem.Expr) : Option {p : Option PySem.Expr × Option PySem.Expr × Pos // x = .Slice p.1 p.2.1 none p.2.2} :=
  if h : x.ctorIdx = 26 then PySem.Expr.Slice.elim x h (fun
    | a, b, none, c => some ⟨(a, b, c), rfl⟩
    | _, _, _, _ => none) else none
noncomputable def asTuple (x : PySem.Expr) : Option {p : List PySem.Expr × Nat × Pos // x = .Tuple p.1 p.2.1 p.2.2} :=
  if h : x.ctorIdx = 25 then PySem.Expr.Tuple.elim x h fun a b c => some ⟨(a, b, c), rfl⟩ else none
noncomputable def asList (x : PySem.Expr) : Option {p : List PySem.Expr × Pos // x = .List p.1 p.2} :=
  if h : x.ctorIdx = 24 then PySem.Expr.List.elim x h fun a b => some ⟨(a, b), rfl⟩ else none
noncomputable def asDict0 (x : PySem.Expr) : Option {p : Pos // x = .Dict [] [] p} :=
  if h : x.ctorIdx = 6 then PySem.Expr.Dict.elim x h (fun
    | [], [], a => some ⟨a, rfl⟩
    | _, _, _ => none) else none
noncomputable def asCall (x : PySem.Expr) : Option {p : PySem.Expr × List PySem.Expr × Pos // x = .Call p.1 p.2.1 [] p.2.2} :=
  if h : x.ctorIdx = 16 then PySem.Expr.Call.elim x h (fun
    | a, b, [], c => some ⟨(a, b, c), rfl⟩
    | _, _, _, _ => none) else none
noncomputable def asComp (x : PySem.Expr) : Option {p : PySem.Expr × PySem.Expr × PySem.Expr × List PySem.Expr × Scope × Pos // x = .ListComp p.1 [⟨p.2.1, p.2.2.1, p.2.2.2.1, 0⟩] p.2.2.2.2.1 p.2.2.2.2.2} :=
  if h : x.ctorIdx = 8 then PySem.Expr.ListComp.elim x h (fun
    | a, [⟨b, c, d, k⟩], e, f => if h : k = 0 then some ⟨(a, b, c, d, e, f), by rw [h]⟩ else none
    | _, _, _, _ => none) else none
noncomputable def notSuper (x : PySem.Expr) : Bool := !(withA (asCall x) fun c => c.2.1.isEmpty && (asName c.1).isSome)
noncomputable def swapOk (y : PySem.Expr) : Bool := (asTuple y).all fun u => !u.1.1.all (constantsAlone 8) || u.1.1.all (foldedForSure 8)
noncomputable def condOk (f : PySem.Expr → Bool) (none_ : Bool) (ifs : List PySem.Expr) : Bool := (ifs.isEmpty && none_) || (!none_ && withA (asOne ifs) fun t => f t)
mutual
noncomputable def RE (ns : Names) (vis : Vis) : E → PySem.Expr → Bool
  | .c v, x => withA (asConst x) fun p => constR v p.1
  | .x i, x => withA (asName x) fun p => (vis.any fun v => v.1 == i && v.2 == p.1) && p.1 != ("__debug__" : Str)
  | .g n, x => withA (asName x) fun p => gnames.contains n && Str.ofString n == p.1 && ns.lookup p.1 == some .globalImplicit && p.1 != ("__debug__" : Str)
  | .bin op a b, x => withA (asBin x) fun p => op == p.2.1 && RE ns vis a p.1 && RE ns vis b p.2.2.1
  | .neg a, x => withA (asUn .USub x) fun p => RE ns vis a p.1
  | .not a, x => withA (asUn .Not x) fun p => RE ns vis a p.1
  | .bop op a b, x => withA (asBop x) fun p => withA (asTwo p.2.1) fun q => op == p.1 && RE ns vis a q.1 && RE ns vis b q.2
  | .cmp op a b, x => withA (asCmp x) fun p => withA (asOne p.2.1) fun o => withA (asOne p.2.2.1) fun r => op == o && RE ns vis a p.1 && RE ns vis b r && !behindInMarks op r
  | .cmp2 o1 o2 a b c, x => withA (asCmp x) fun p => withA (asTwo p.2.1) fun o => withA (asTwo p.2.2.1) fun r =>
      o1 == o.1 && o2 == o.2 && RE ns vis a p.1 && RE ns vis b r.1 && RE ns vis c r.2 && !lastMarks [o1, o2] [r.1, r.2] && !behindInMarks o2 r.2
  | .ite t a b, x => withA (asIte x) fun p => RE ns vis t p.1 && RE ns vis a p.2.1 && RE ns vis b p.2.2.1
  | .attr a n, x => withA (asAttr x) fun p => Str.ofString n == p.2.1 && attrNames.contains n && notSuper p.1 && RE ns vis a p.1
  | .sub a i, x => withA (asSub x) fun p => notSlice p.2.1 && RE ns vis a p.1 && RE ns vis i p.2.1
  | .slice a lo hi, x => withA (asSub x) fun p => withA (asSl p.2.1) fun q => RE ns vis a p.1 && RO ns vis lo q.1 && RO ns vis hi q.2.1
  | .tup es, x => withA (asTuple x) fun p => REs ns vis es p.1
  | .list _ es, x => withA (asList x) fun p => REs ns vis es p.1
  | .dict0, x => withA (asDict0 x) fun u_ => true
  | .compR elt i args cond, x => withA (asComp x) fun p => withA (asName p.2.1) fun y => withA (asCall p.2.2.1) fun c => withA (asName c.1) fun r =>
      r.1 == ("range" : Str) && ns.lookup r.1 == some .globalImplicit && REs ns vis args c.2.1 && scopeOk ns vis i y.1 p.2.2.2.2.1 && RE (innerNames ns p.2.2.2.2.1) (innerVis ns vis i y.1 p.2.2.2.2.1) elt p.1 &&
        condOk (fun t => RO (innerNames ns p.2.2.2.2.1) (innerVis ns vis i y.1 p.2.2.2.2.1) cond (some t)) cond.isNone p.2.2.2.1
  | .compL elt i src, x => withA (asComp x) fun p => withA (asName p.2.1) fun y =>
      notSet p.2.2.1 && p.2.2.2.1.isEmpty && RE ns vis src p.2.2.1 && scopeOk ns vis i y.1 p.2.2.2.2.1 && RE (innerNames ns p.2.2.2.2.1) (innerVis ns vis i y.1 p.2.2.2.2.1) elt p.1
  | .call f args, x => withA (asCall x) fun c => notCallOfAttr c.1 && RE ns vis f c.1 && REs ns vis args c.2.1
  | .meth o n args, x => withA (asCall x) fun c => withA (asAttr c.1) fun p =>
      Str.ofString n == p.2.1 && notSuper p.1 && p.2.2.endLine == c.2.2.line && RE ns vis o p.1 && REs ns vis args c.2.1 && Nat.blt c.2.1.length 20
noncomputable def RO (ns : Names) (vis : Vis) : Option E → Option PySem.Expr → Bool
  | none, x => x.isNone
  | some e, x => x.any fun x => RE ns vis e x
noncomputable def REs (ns : Names) (vis : Vis) : List E → List PySem.Expr → Bool
  | [], xs => xs.isEmpty
  | e :: es, xs => match xs with
    | x :: xs => notStar x && RE ns vis e x && REs ns vis es xs
    | [] => false
end
noncomputable def RT (ns : Names) (vis : Vis) : T → PySem.Expr → Bool
  | .x i, x => withA (asName x) fun p => vis.any fun v => v.1 == i && v.2 == p.1
  | .tup is, x => withA (asTuple x) fun p => is.length == p.1.length && (is.zip p.1).all fun z => withA (asName z.2) fun y => vis.any fun v => v.1 == z.1 && v.2 == y.1
  | .attr o n, x => withA (asAttr x) fun p => Str.ofString n == p.2.1 && attrNames.contains n && RE ns vis o p.1
  | .sub a i, x => withA (asSub x) fun p => notSlice p.2.1 && RE ns vis a p.1 && RE ns vis i p.2.1
  | .slice a lo hi, x => withA (asSub x) fun p => withA (asSl p.2.1) fun q => RE ns vis a p.1 && q.1.any (RE ns vis lo) && q.2.1.any (RE ns vis hi)
noncomputable def RI (ns : Names) (vis : Vis) : It → PySem.Expr → Bool
  | .e a, x => notSet x && RE ns vis a x
  | .rng args, x => withA (asCall x) fun c => withA (asName c.1) fun r => r.1 == ("range" : Str) && ns.lookup r.1 == some .globalImplicit && REs ns vis args c.2.1
  | .enum a, x => withA (asCall x) fun c => withA (asName c.1) fun r => withA (asOne c.2.1) fun y => r.1 == ("enumerate" : Str) && ns.lookup r.1 == some .globalImplicit && notStar y && RE ns vis a y
noncomputable def asExprS (x : Stmt) : Option {p : PySem.Expr × Pos // x = .Expr p.1 p.2} :=
  if h : x.ctorIdx = 24 then PySem.Stmt.Expr.elim x h fun a b => some ⟨(a, b), rfl⟩ else none
noncomputable def asAssign (x : Stmt) : Option {p : PySem.Expr × PySem.Expr × Pos // x = .Assign [p.1] p.2.1 p.2.2} :=
  if h : x.ctorIdx = 5 then PySem.Stmt.Assign.elim x h (fun
    | [a], b, c => some ⟨(a, b, c), rfl⟩
    | _, _, _ => none) else none
noncomputable def asAug (x : Stmt) : Option {p : PySem.Expr × Operator × PySem.Expr × Pos // x = .AugAssign p.1 p.2.1 p.2.2.1 p.2.2.2} :=
  if h : x.ctorIdx = 7 then PySem.Stmt.AugAssign.elim x h fun a b c d => some ⟨(a, b, c, d), rfl⟩ else none
noncomputable def asIfS (x : Stmt) : Option {p : PySem.Expr × List Stmt × List Stmt × Pos // x = .If p.1 p.2.1 p.2.2.1 p.2.2.2} :=
  if h : x.ctorIdx = 12 then PySem.Stmt.If.elim x h fun a b c d => some ⟨(a, b, c, d), rfl⟩ else none
noncomputable def asFor (x : Stmt) : Option {p : PySem.Expr × PySem.Expr × List Stmt × Pos // x = .For p.1 p.2.1 p.2.2.1 [] p.2.2.2} :=
  if h : x.ctorIdx = 9 then PySem.Stmt.For.elim x h (fun
    | a, b, c, [], d => some ⟨(a, b, c, d), rfl⟩
    | _, _, _, _, _ => none) else none
noncomputable def asRet (x : Stmt) : Option {p : Option PySem.Expr × Pos // x = .Return p.1 p.2} :=
  if h : x.ctorIdx = 3 then PySem.Stmt.Return.elim x h fun a b => some ⟨(a, b), rfl⟩ else none
noncomputable def asRaise (x : Stmt) : Option {p : PySem.Expr × Pos // x = .Raise (some p.1) none p.2} :=
  if h : x.ctorIdx = 16 then PySem.Stmt.Raise.elim x h (fun
    | (some a), none, b => some ⟨(a, b), rfl⟩
    | _, _, _ => none) else none
noncomputable def asStr : (x : Const) → Option {p : Str // x = .str p}
  | .str a => some ⟨a, rfl⟩
  | _ => none
noncomputable def asTry (x : Stmt) : Option {p : List Stmt × PySem.Expr × Stmt × List Stmt × Pos × Pos // x = .Try p.1 [.ExceptHandler (some p.2.1) none (p.2.2.1 :: p.2.2.2.1) p.2.2.2.2.1] [] [] p.2.2.2.2.2} :=
  if h : x.ctorIdx = 17 then PySem.Stmt.Try.elim x h (fun
    | a, [.ExceptHandler (some b) none (c :: d) e], [], [], f => some ⟨(a, b, c, d, e, f), rfl⟩
    | _, _, _, _, _ => none) else none
noncomputable def asDel (x : Stmt) : Option {p : PySem.Expr × Pos // x = .Delete [p.1] p.2} :=
  if h : x.ctorIdx = 4 then PySem.Stmt.Delete.elim x h (fun
    | [a], b => some ⟨(a, b), rfl⟩
    | _, _ => none) else none
noncomputable def asCont (x : Stmt) : Option {p : Pos // x = .Continue p} :=
  if h : x.ctorIdx = 27 then PySem.Stmt.Continue.elim x h fun a => some ⟨a, rfl⟩ else none
noncomputable def T.isTup : T → Bool
  | .tup _ => true
  | _ => false
noncomputable def It.isEnum : It → Bool
  | .enum _ => true
  | _ => false
mutual
noncomputable def RS (ns : Names) (vis : Vis) : S → Stmt → Bool
  | .expr e, x => withA (asExprS x) fun p => notComp p.1 && RE ns vis e p.1
  | .asg t e, x => withA (asAssign x) fun p => RT ns vis t p.1 && RE ns vis e p.2.1 && swapOk p.2.1
  | .aug i op e, x => withA (asAug x) fun p => withA (asName p.1) fun y => op == p.2.1 && (vis.any fun v => v.1 == i && v.2 == y.1) && RE ns vis e p.2.2.1
  | .augA o n op e, x => withA (asAug x) fun p => withA (asAttr p.1) fun q => op == p.2.1 && Str.ofString n == q.2.1 && attrNames.contains n && RE ns vis o q.1 && RE ns vis e p.2.2.1
  | .ifs t a b, x => withA (asIfS x) fun p => RE ns vis t p.1 && RSs ns vis a p.2.1 && RSs ns vis b p.2.2.1
  | .for_ t it body, x => withA (asFor x) fun p => RT ns vis t p.1 && RI ns vis it p.2.1 && RSs ns vis body p.2.2.1 && (!it.isEnum || t.isTup)
  | .ret e, x => withA (asRet x) fun p => RO ns vis e p.1
  | .raise_ n, x => withA (asRaise x) fun p => withA (asCall p.1) fun c => withA (asName c.1) fun y => withA (asOne c.2.1) fun a => withA (asConst a) fun k => withA (asStr k.1) fun u_ => n != "CrashError" || (y.1 == ("CrashError" : Str) && ns.lookup y.1 == some .globalImplicit)
  | .try_ body h, x => withA (asTry x) fun p => withA (asName p.2.1) fun y => RSs ns vis body p.1 && y.1 == ("CrashError" : Str) && ns.lookup y.1 == some .globalImplicit && RSs ns vis h (p.2.2.1 :: p.2.2.2.1)
  | .delSub a i, x => withA (asDel x) fun p => withA (asSub p.1) fun q => notSlice q.2.1 && RE ns vis a q.1 && RE ns vis i q.2.1
  | .delSlice a lo, x => withA (asDel x) fun p => withA (asSub p.1) fun q => withA (asSl q.2.1) fun l => l.2.1.isNone && RE ns vis a q.1 && l.1.any (RE ns vis lo)
  | .cont, x => withA (asCont x) fun u_ => true
noncomputable def RSs (ns : Names) (vis : Vis) : List S → List Stmt → Bool
  | [], xs => xs.isEmpty
  | s :: r, xs => match xs with
    | x :: xs => RS ns vis s x && RSs ns vis r xs
    | [] => false
end
end Mine
end
section
namespace Mine
noncomputable def B.putNumber : Def := { params := 2, dflt := [], locals := ["number", "size"], body :=
    [.ret (some (.meth (.bin .Mod (.x 0) (.bin .Pow (.c (.int 256)) (.x 1))) "to_bytes" [(.x 1), (.c (.str "big"))]))] }
noncomputable def B.getNumber : Def := { params := 3, dflt := [], locals := ["octets", "at", "size"], body :=
    [.ret (some (.meth (.g "int") "from_bytes" [(.slice (.x 0) (some (.x 1)) (some (.bin .Add (.x 1) (.x 2)))), (.c (.str "big"))]))] }
noncomputable def B.isPageSize : Def := { params := 1, dflt := [], locals := ["size"], body :=
    [.ret (some (.cmp2 .LtE .LtE (.g "LEAST_PAGE_SIZE") (.x 0) (.g "MOST_PAGE_SIZE")))] }
noncomputable def B.recordSum : Def := { params := 3, dflt := [], locals := ["nonce", "page", "octets", "total", "i"], body :=
    [.asg (.x 3) (.bin .Add (.x 0) (.x 1)),
    .for_ (.x 4) (.rng [(.bin .Sub (.call (.g "len") [(.x 2)]) (.c (.int 1))), (.neg (.c (.int 1))), (.neg (.c (.int 8)))])
      [.aug 3 .Add (.bin .Mult (.sub (.x 2) (.x 4)) (.bin .Add (.x 4) (.c (.int 1))))],
    .ret (some (.bin .Mod (.x 3) (.g "WORD")))] }
noncomputable def B.jInit : Def := { params := 4, dflt := [], locals := ["self", "disk", "name", "page_size"], body :=
    [.asg (.attr (.x 0) "disk") (.x 1),
    .asg (.attr (.x 0) "name") (.bin .Add (.x 2) (.c (.str "-journal"))),
    .asg (.attr (.x 0) "page_size") (.x 3),
    .asg (.attr (.x 0) "nonce") (.c (.int 0)),
    .asg (.attr (.x 0) "count") (.c (.int 0)),
    .asg (.attr (.x 0) "safe") (.g "NOT_SYNCED")] }
noncomputable def B.jFile : Def := { params := 1, dflt := [], locals := ["self"], body :=
    [.ret (some (.meth (.attr (.x 0) "disk") "open" [(.attr (.x 0) "name")]))] }
noncomputable def B.jRecordSize : Def := { params := 1, dflt := [], locals := ["self"], body :=
    [.ret (some (.bin .Add (.attr (.x 0) "page_size") (.c (.int 8))))] }
noncomputable def B.jBegin : Def := { params := 3, dflt := [], locals := ["self", "page_count", "nonce", "file", "head"], body :=
    [.asg (.attr (.x 0) "nonce") (.bin .Mod (.x 2) (.g "WORD")),
    .asg (.attr (.x 0) "count") (.c (.int 0)),
    .asg (.attr (.x 0) "safe") (.g "NOT_SYNCED"),
    .asg (.x 3) (.meth (.x 0) "file" []),
    .ifs (.cmp .Gt (.meth (.x 3) "size" []) (.c (.int 0)))
      [.expr (.meth (.x 3) "truncate" [(.c (.int 0))])]
      [],
    .asg (.x 4) (.bin .Add (.bin .Add (.g "JOURNAL_MAGIC") (.call (.g "put_number") [(.g "NOT_SYNCED"), (.c (.int 4))])) (.call (.g "put_number") [(.attr (.x 0) "nonce"), (.c (.int 4))])),
    .expr (.meth (.x 3) "write" [(.c (.int 0)), (.bin .Add (.bin .Add (.x 4) (.call (.g "put_number") [(.x 1), (.c (.int 4))])) (.call (.g "put_number") [(.attr (.x 0) "page_size"), (.c (.int 4))]))])] }
noncomputable def B.jAdd : Def := { params := 3, dflt := [], locals := ["self", "page", "octets", "at", "record"], body :=
    [.asg (.x 3) (.bin .Add (.g "HEAD_SIZE") (.bin .Mult (.attr (.x 0) "count") (.meth (.x 0) "record_size" []))),
    .asg (.x 4) (.bin .Add (.bin .Add (.call (.g "put_number") [(.x 1), (.c (.int 4))]) (.call (.g "bytes") [(.x 2)])) (.call (.g "put_number") [(.call (.g "record_sum") [(.attr (.x 0) "nonce"), (.x 1), (.x 2)]), (.c (.int 4))])),
    .expr (.meth (.meth (.x 0) "file" []) "write" [(.x 3), (.x 4)]),
    .augA (.x 0) "count" .Add (.c (.int 1))] }
noncomputable def B.jSync : Def := { params := 1, dflt := [], locals := ["self", "file"], body :=
    [.ifs (.cmp .Eq (.attr (.x 0) "safe") (.attr (.x 0) "count"))
      [.ret none]
      [],
    .asg (.x 1) (.meth (.x 0) "file" []),
    .expr (.meth (.x 1) "sync" []),
    .expr (.meth (.x 1) "write" [(.g "COUNT_AT"), (.call (.g "put_number") [(.attr (.x 0) "count"), (.c (.int 4))])]),
    .expr (.meth (.x 1) "sync" []),
    .asg (.attr (.x 0) "safe") (.attr (.x 0) "count")] }
noncomputable def B.jReadHead : Def := { params := 1, dflt := [], locals := ["self", "head", "page_size"], body :=
    [.asg (.x 1) (.meth (.meth (.x 0) "file" []) "read" [(.c (.int 0)), (.g "HEAD_SIZE")]),
    .ifs (.bop .Or (.cmp .Lt (.call (.g "len") [(.x 1)]) (.g "HEAD_SIZE")) (.cmp .NotEq (.slice (.x 1) none (some (.c (.int 8)))) (.g "JOURNAL_MAGIC")))
      [.ret (some (.c .none))]
      [],
    .asg (.x 2) (.call (.g "get_number") [(.x 1), (.c (.int 20)), (.c (.int 4))]),
    .ifs (.not (.call (.g "is_page_size") [(.x 2)]))
      [.ret (some (.c .none))]
      [],
    .ret (some (.tup [(.call (.g "get_number") [(.x 1), (.g "COUNT_AT"), (.c (.int 4))]), (.call (.g "get_number") [(.x 1), (.c (.int 12)), (.c (.int 4))]), (.call (.g "get_number") [(.x 1), (.c (.int 16)), (.c (.int 4))]), (.x 2)]))] }
noncomputable def B.jIsHot : Def := { params := 1, dflt := [], locals := ["self", "head"], body :=
    [.ifs (.not (.meth (.attr (.x 0) "disk") "exists" [(.attr (.x 0) "name")]))
      [.ret (some (.c (.bool false)))]
      [],
    .asg (.x 1) (.meth (.x 0) "read_head" []),
    .ifs (.bop .Or (.cmp .Is (.x 1) (.c .none)) (.cmp .Eq (.sub (.x 1) (.c (.int 0))) (.g "NOT_SYNCED")))
      [.ret (some (.c (.bool false)))]
      [],
    .ret (some (.cmp .LtE (.bin .Add (.g "HEAD_SIZE") (.bin .Mult (.sub (.x 1) (.c (.int 0))) (.bin .Add (.sub (.x 1) (.c (.int 3))) (.c (.int 8))))) (.meth (.meth (.x 0) "file" []) "size" [])))] }
noncomputable def B.jPlay : Def := { params := 2, dflt := [], locals := ["self", "file", "head", "count", "nonce", "page_count", "page_size", "journal", "i", "record", "page", "octets"], body :=
    [.asg (.x 2) (.meth (.x 0) "read_head" []),
    .ifs (.bop .Or (.cmp .Is (.x 2) (.c .none)) (.cmp .Eq (.sub (.x 2) (.c (.int 0))) (.g "NOT_SYNCED")))
      [.raise_ "CorruptError"]
      [],
    .asg (.tup [3, 4, 5, 6]) (.x 2),
    .asg (.x 7) (.meth (.x 0) "file" []),
    .for_ (.x 8) (.rng [(.x 3)])
      [.asg (.x 9) (.meth (.x 7) "read" [(.bin .Add (.g "HEAD_SIZE") (.bin .Mult (.x 8) (.bin .Add (.x 6) (.c (.int 8))))), (.bin .Add (.x 6) (.c (.int 8)))]),
      .asg (.x 10) (.call (.g "get_number") [(.x 9), (.c (.int 0)), (.c (.int 4))]),
      .asg (.x 11) (.slice (.x 9) (some (.c (.int 4))) (some (.bin .Add (.c (.int 4)) (.x 6)))),
      .ifs (.bop .Or (.cmp .Lt (.call (.g "len") [(.x 9)]) (.bin .Add (.x 6) (.c (.int 8)))) (.cmp .NotEq (.call (.g "get_number") [(.x 9), (.bin .Add (.c (.int 4)) (.x 6)), (.c (.int 4))]) (.call (.g "record_sum") [(.x 4), (.x 10), (.x 11)])))
        [.raise_ "CorruptError"]
        [],
      .ifs (.cmp2 .LtE .LtE (.c (.int 1)) (.x 10) (.x 5))
        [.expr (.meth (.x 1) "write" [(.bin .Mult (.bin .Sub (.x 10) (.c (.int 1))) (.x 6)), (.x 11)])]
        []],
    .ifs (.cmp .NotEq (.meth (.x 1) "size" []) (.bin .Mult (.x 5) (.x 6)))
      [.expr (.meth (.x 1) "truncate" [(.bin .Mult (.x 5) (.x 6))])]
      [],
    .expr (.meth (.x 1) "sync" [])] }
noncomputable def B.jFinish : Def := { params := 1, dflt := [], locals := ["self"], body :=
    [.expr (.meth (.attr (.x 0) "disk") "delete" [(.attr (.x 0) "name")])] }
noncomputable def B.lockInit : Def := { params := 1, dflt := [], locals := ["self"], body :=
    [.asg (.attr (.x 0) "levels") .dict0,
    .asg (.attr (.x 0) "slots") .dict0,
    .asg (.attr (.x 0) "told_marks") .dict0] }
noncomputable def B.fInit : Def := { params := 3, dflt := [], locals := ["self", "disk", "name"], body :=
    [.asg (.attr (.x 0) "disk") (.x 1),
    .asg (.attr (.x 0) "name") (.x 2),
    .asg (.attr (.x 0) "synced") (.c (.bytes [])),
    .asg (.attr (.x 0) "pending") (.list true []),
    .asg (.attr (.x 0) "now") (.call (.g "bytearray") [])] }
noncomputable def B.fSize : Def := { params := 1, dflt := [], locals := ["self"], body :=
    [.ret (some (.call (.g "len") [(.attr (.x 0) "now")]))] }
noncomputable def B.fRead : Def := { params := 3, dflt := [], locals := ["self", "at", "size"], body :=
    [.ret (some (.call (.g "bytes") [(.slice (.attr (.x 0) "now") (some (.x 1)) (some (.bin .Add (.x 1) (.x 2))))]))] }
noncomputable def B.fWrite : Def := { params := 3, dflt := [], locals := ["self", "at", "octets"], body :=
    [.expr (.meth (.attr (.x 0) "disk") "check_room" [(.x 0), (.bin .Add (.x 1) (.call (.g "len") [(.x 2)]))]),
    .expr (.meth (.attr (.x 0) "disk") "step" []),
    .expr (.meth (.attr (.x 0) "pending") "append" [(.tup [(.c (.str "write")), (.x 1), (.call (.g "bytes") [(.x 2)])])]),
    .expr (.call (.g "put_octets") [(.attr (.x 0) "now"), (.x 1), (.x 2)])] }
noncomputable def B.fTruncate : Def := { params := 2, dflt := [], locals := ["self", "size"], body :=
    [.expr (.meth (.attr (.x 0) "disk") "check_room" [(.x 0), (.x 1)]),
    .expr (.meth (.attr (.x 0) "disk") "step" []),
    .expr (.meth (.attr (.x 0) "pending") "append" [(.tup [(.c (.str "truncate")), (.x 1), (.c (.bytes []))])]),
    .expr (.call (.g "cut_octets") [(.attr (.x 0) "now"), (.x 1)])] }
noncomputable def B.fSync : Def := { params := 1, dflt := [], locals := ["self"], body :=
    [.expr (.meth (.attr (.x 0) "disk") "step" []),
    .asg (.attr (.x 0) "synced") (.call (.g "bytes") [(.attr (.x 0) "now")]),
    .asg (.attr (.x 0) "pending") (.list true [])] }
noncomputable def B.fSurviving : Def := { params := 3, dflt := [], locals := ["self", "numbers", "sector", "left", "word", "at", "octets", "number", "way", "sectors"], body :=
    [.asg (.x 3) (.call (.g "bytearray") [(.attr (.x 0) "synced")]),
    .for_ (.tup [4, 5, 6]) (.e (.attr (.x 0) "pending"))
      [.asg (.x 7) (.meth (.x 1) "following" []),
      .asg (.x 8) (.bin .Mod (.x 7) (.c (.int 4))),
      .ifs (.cmp .Eq (.x 8) (.c (.int 0)))
        [.cont]
        [],
      .ifs (.cmp .Eq (.x 4) (.c (.str "truncate")))
        [.ifs (.cmp .NotEq (.x 8) (.c (.int 2)))
          [.expr (.call (.g "cut_octets") [(.x 3), (.x 5)])]
          [],
        .cont]
        [],
      .ifs (.cmp .Eq (.x 8) (.c (.int 2)))
        [.asg (.x 9) (.call (.g "max") [(.c (.int 1)), (.bin .FloorDiv (.bin .Sub (.bin .Add (.call (.g "len") [(.x 6)]) (.x 2)) (.c (.int 1))) (.x 2))]),
        .asg (.x 6) (.slice (.x 6) none (some (.bin .Mult (.bin .Mod (.bin .FloorDiv (.x 7) (.c (.int 4))) (.x 9)) (.x 2))))]
        [],
      .ifs (.cmp .NotEq (.x 6) (.c (.bytes [])))
        [.expr (.call (.g "put_octets") [(.x 3), (.x 5), (.x 6)])]
        []],
    .ret (some (.x 3))] }
noncomputable def B.cInit : Def := { params := 2, dflt := [], locals := ["self", "numbers"], body :=
    [.asg (.attr (.x 0) "numbers") (.call (.g "list") [(.x 1)]),
    .asg (.attr (.x 0) "told") (.c (.int 0))] }
noncomputable def B.cFollowing : Def := { params := 1, dflt := [], locals := ["self", "number"], body :=
    [.ifs (.cmp .Eq (.attr (.x 0) "numbers") (.list false []))
      [.ret (some (.c (.int 0)))]
      [],
    .asg (.x 1) (.sub (.attr (.x 0) "numbers") (.bin .Mod (.attr (.x 0) "told") (.call (.g "len") [(.attr (.x 0) "numbers")]))),
    .augA (.x 0) "told" .Add (.c (.int 1)),
    .ret (some (.x 1))] }
noncomputable def B.dInit : Def := { params := 3, dflt := [(.int 8), .none], locals := ["self", "sector", "room"], body :=
    [.asg (.attr (.x 0) "sector") (.x 1),
    .asg (.attr (.x 0) "room") (.x 2),
    .asg (.attr (.x 0) "files") .dict0,
    .asg (.attr (.x 0) "steps") (.c (.int 0)),
    .asg (.attr (.x 0) "crash_at") (.c .none),
    .asg (.attr (.x 0) "shared") .dict0,
    .asg (.attr (.x 0) "locks") (.call (.g "LockTable") [])] }
noncomputable def B.dStep : Def := { params := 1, dflt := [], locals := ["self"], body :=
    [.ifs (.bop .And (.cmp .IsNot (.attr (.x 0) "crash_at") (.c .none)) (.cmp .GtE (.bin .Add (.attr (.x 0) "steps") (.c (.int 1))) (.attr (.x 0) "crash_at")))
      [.raise_ "CrashError"]
      [],
    .augA (.x 0) "steps" .Add (.c (.int 1))] }
noncomputable def B.dCheckRoom : Def := { params := 3, dflt := [], locals := ["self", "file", "size", "total", "other"], body :=
    [.ifs (.bop .Or (.cmp .Is (.attr (.x 0) "room") (.c .none)) (.cmp .LtE (.x 2) (.meth (.x 1) "size" [])))
      [.ret none]
      [],
    .asg (.x 3) (.c (.int 0)),
    .for_ (.x 4) (.e (.meth (.attr (.x 0) "files") "values" []))
      [.aug 3 .Add (.meth (.x 4) "size" [])],
    .ifs (.cmp .Gt (.bin .Add (.bin .Sub (.x 3) (.meth (.x 1) "size" [])) (.x 2)) (.attr (.x 0) "room"))
      [.raise_ "FullError"]
      []] }
noncomputable def B.dExists : Def := { params := 2, dflt := [], locals := ["self", "name"], body :=
    [.ret (some (.cmp .In (.x 1) (.attr (.x 0) "files")))] }
noncomputable def B.dOpen : Def := { params := 2, dflt := [], locals := ["self", "name"], body :=
    [.ifs (.cmp .NotIn (.x 1) (.attr (.x 0) "files"))
      [.asg (.sub (.attr (.x 0) "files") (.x 1)) (.call (.g "DiskFile") [(.x 0), (.x 1)])]
      [],
    .ret (some (.sub (.attr (.x 0) "files") (.x 1)))] }
noncomputable def B.dDelete : Def := { params := 2, dflt := [], locals := ["self", "name"], body :=
    [.ifs (.cmp .NotIn (.x 1) (.attr (.x 0) "files"))
      [.ret none]
      [],
    .expr (.meth (.x 0) "step" []),
    .delSub (.attr (.x 0) "files") (.x 1)] }
noncomputable def B.dSurvivor : Def := { params := 2, dflt := [], locals := ["self", "choices", "numbers", "other", "name", "file", "left"], body :=
    [.asg (.x 2) (.call (.g "Choices") [(.x 1)]),
    .asg (.x 3) (.call (.g "Disk") [(.attr (.x 0) "sector"), (.attr (.x 0) "room")]),
    .for_ (.x 4) (.e (.call (.g "sorted") [(.attr (.x 0) "files")]))
      [.asg (.x 5) (.meth (.x 3) "open" [(.x 4)]),
      .asg (.x 6) (.meth (.sub (.attr (.x 0) "files") (.x 4)) "surviving" [(.x 2), (.attr (.x 0) "sector")]),
      .asg (.attr (.x 5) "synced") (.call (.g "bytes") [(.x 6)]),
      .asg (.attr (.x 5) "now") (.x 6)],
    .ret (some (.x 3))] }
noncomputable def B.putOctets : Def := { params := 3, dflt := [], locals := ["target", "at", "octets"], body :=
    [.ifs (.cmp .Gt (.x 1) (.call (.g "len") [(.x 0)]))
      [.expr (.meth (.x 0) "extend" [(.call (.g "bytes") [(.bin .Sub (.x 1) (.call (.g "len") [(.x 0)]))])])]
      [],
    .asg (.slice (.x 0) (.x 1) (.bin .Add (.x 1) (.call (.g "len") [(.x 2)]))) (.x 2)] }
noncomputable def B.cutOctets : Def := { params := 2, dflt := [], locals := ["target", "size"], body :=
    [.ifs (.cmp .Lt (.x 1) (.call (.g "len") [(.x 0)]))
      [.delSlice (.x 0) (.x 1)]
      [.ifs (.cmp .Gt (.x 1) (.call (.g "len") [(.x 0)]))
        [.expr (.meth (.x 0) "extend" [(.call (.g "bytes") [(.bin .Sub (.x 1) (.call (.g "len") [(.x 0)]))])])]
        []]] }
noncomputable def B.lPool : Def := { params := 1, dflt := [], locals := ["script", "digits", "mixed", "number", "size"], body :=
    [.asg (.tup [1, 2]) (.tup [(.c (.int 0)), (.c (.int 29))]),
    .for_ (.x 3) (.e (.x 0))
      [.asg (.x 4) (.ite (.cmp .GtE (.x 3) (.c (.int 0))) (.x 3) (.bin .Sub (.neg (.c (.int 1))) (.x 3))),
      .ifs (.cmp .GtE (.x 4) (.bin .Pow (.c (.int 10)) (.c (.int 18))))
        [.asg (.x 1) (.bin .Add (.bin .Mult (.x 1) (.x 4)) (.x 4))]
        [],
      .asg (.x 2) (.bin .Mod (.bin .Add (.bin .Add (.bin .Mult (.x 2) (.c (.int 48271))) (.bin .Mod (.x 4) (.c (.int 2147483629)))) (.c (.int 7919))) (.c (.int 2147483647)))],
    .ret (some (.list true [(.x 1), (.x 2)]))] }
noncomputable def B.lTake : Def := { params := 2, dflt := [], locals := ["source", "top", "drawn"], body :=
    [.ifs (.cmp .Gt (.sub (.x 0) (.c (.int 0))) (.c (.int 0)))
      [.asg (.x 2) (.bin .Mod (.sub (.x 0) (.c (.int 0))) (.x 1)),
      .asg (.sub (.x 0) (.c (.int 0))) (.bin .FloorDiv (.sub (.x 0) (.c (.int 0))) (.x 1)),
      .ret (some (.x 2))]
      [],
    .asg (.sub (.x 0) (.c (.int 1))) (.bin .Mod (.bin .Add (.bin .Mult (.sub (.x 0) (.c (.int 1))) (.c (.int 39373))) (.c (.int 7))) (.c (.int 2147483647))),
    .ret (some (.bin .Mod (.bin .FloorDiv (.bin .Mod (.bin .Mult (.sub (.x 0) (.c (.int 1))) (.sub (.x 0) (.c (.int 1)))) (.c (.int 2147483629))) (.c (.int 32))) (.x 1)))] }
noncomputable def B.lPage : Def := { params := 1, dflt := [], locals := ["source"], body :=
    [.ret (some (.bin .Add (.bin .Mult (.call (.g "bytes") [(.list false [(.call (.g "_law_take") [(.x 0), (.c (.int 256))])])]) (.c (.int 40))) (.bin .Mult (.call (.g "bytes") [(.list false [(.call (.g "_law_take") [(.x 0), (.c (.int 256))])])]) (.c (.int 24)))))] }
noncomputable def B.lChanges : Def := { params := 1, dflt := [], locals := ["source", "old", "first", "changes", "turn", "new", "many", "touched", "cut", "turn", "page", "at"], body :=
    [.asg (.x 1) (.compR (.call (.g "_law_page") [(.x 0)]) 9 [(.bin .Add (.c (.int 1)) (.call (.g "_law_take") [(.x 0), (.c (.int 3))]))] none),
    .asg (.tup [2, 3]) (.tup [(.x 1), (.list true [])]),
    .for_ (.x 4) (.rng [(.bin .Add (.c (.int 1)) (.call (.g "_law_take") [(.x 0), (.c (.int 2))]))])
      [.asg (.x 5) (.compL (.ite (.cmp .Eq (.call (.g "_law_take") [(.x 0), (.c (.int 2))]) (.c (.int 0))) (.x 10) (.call (.g "_law_page") [(.x 0)])) 10 (.x 1)),
      .asg (.x 6) (.call (.g "max") [(.c (.int 1)), (.bin .Add (.bin .Sub (.call (.g "len") [(.x 5)]) (.c (.int 1))) (.call (.g "_law_take") [(.x 0), (.c (.int 3))]))]),
      .asg (.x 5) (.slice (.bin .Add (.x 5) (.list false [(.call (.g "_law_page") [(.x 0)])])) none (some (.x 6))),
      .asg (.x 7) (.compR (.bin .Add (.x 11) (.c (.int 1))) 11 [(.call (.g "max") [(.call (.g "len") [(.x 1)]), (.call (.g "len") [(.x 5)])])] (some (.cmp .NotEq (.slice (.x 1) (some (.x 11)) (some (.bin .Add (.x 11) (.c (.int 1))))) (.slice (.x 5) (some (.x 11)) (some (.bin .Add (.x 11) (.c (.int 1)))))))),
      .asg (.x 8) (.call (.g "_law_take") [(.x 0), (.bin .Add (.call (.g "len") [(.x 7)]) (.c (.int 1)))]),
      .expr (.meth (.x 3) "append" [(.tup [(.x 1), (.x 5), (.list false [(.slice (.x 7) none (some (.x 8))), (.slice (.x 7) (some (.x 8)) none)])])]),
      .asg (.x 1) (.x 5)],
    .ret (some (.list false [(.x 2), (.x 3)]))] }
noncomputable def B.lBegun : Def := { params := 2, dflt := [], locals := ["disk", "pages", "file"], body :=
    [.asg (.x 2) (.meth (.x 0) "open" [(.c (.str "db"))]),
    .expr (.meth (.x 2) "write" [(.c (.int 0)), (.meth (.c (.bytes [])) "join" [(.x 1)])]),
    .expr (.meth (.x 2) "sync" []),
    .ret (some (.x 2))] }
noncomputable def B.lLot : Def := { params := 5, dflt := [], locals := ["journal", "file", "old", "new", "lot", "page"], body :=
    [.for_ (.x 5) (.e (.x 4))
      [.ifs (.cmp .LtE (.x 5) (.call (.g "len") [(.x 2)]))
        [.expr (.meth (.x 0) "add" [(.x 5), (.sub (.x 2) (.bin .Sub (.x 5) (.c (.int 1))))])]
        []],
    .expr (.meth (.x 0) "sync" []),
    .for_ (.x 5) (.e (.x 4))
      [.ifs (.cmp .LtE (.x 5) (.call (.g "len") [(.x 3)]))
        [.expr (.meth (.x 1) "write" [(.bin .Mult (.bin .Sub (.x 5) (.c (.int 1))) (.c (.int 64))), (.sub (.x 3) (.bin .Sub (.x 5) (.c (.int 1))))])]
        []]] }
noncomputable def B.lChanged : Def := { params := 4, dflt := [], locals := ["disk", "file", "change", "nonce", "old", "new", "lots", "journal", "lot"], body :=
    [.asg (.tup [4, 5, 6]) (.x 2),
    .asg (.x 7) (.call (.g "Journal") [(.x 0), (.c (.str "db")), (.c (.int 64))]),
    .expr (.meth (.x 7) "begin" [(.call (.g "len") [(.x 4)]), (.x 3)]),
    .for_ (.x 8) (.e (.x 6))
      [.expr (.call (.g "_law_lot") [(.x 7), (.x 1), (.x 4), (.x 5), (.x 8)])],
    .ifs (.cmp .Lt (.call (.g "len") [(.x 5)]) (.call (.g "len") [(.x 4)]))
      [.expr (.meth (.x 1) "truncate" [(.bin .Mult (.call (.g "len") [(.x 5)]) (.c (.int 64)))])]
      [],
    .expr (.meth (.x 1) "sync" []),
    .expr (.meth (.x 7) "finish" [])] }
noncomputable def B.lRecovered : Def := { params := 1, dflt := [], locals := ["disk", "file", "journal"], body :=
    [.asg (.tup [1, 2]) (.tup [(.meth (.x 0) "open" [(.c (.str "db"))]), (.call (.g "Journal") [(.x 0), (.c (.str "db")), (.c (.int 64))])]),
    .ifs (.meth (.x 0) "exists" [(.c (.str "db-journal"))])
      [.ifs (.meth (.x 2) "is_hot" [])
        [.expr (.meth (.x 2) "play" [(.x 1)])]
        [],
      .expr (.meth (.x 2) "finish" [])]
      [],
    .ret (some (.meth (.x 1) "read" [(.c (.int 0)), (.meth (.x 1) "size" [])]))] }
noncomputable def B.lChoices : Def := { params := 1, dflt := [], locals := ["source", "turn"], body :=
    [.ret (some (.compR (.call (.g "_law_take") [(.x 0), (.c (.int 24))]) 1 [(.c (.int 9))] none))] }
noncomputable def B.lCrashed : Def := { params := 4, dflt := [], locals := ["source", "first", "changes", "crash", "disk", "done", "file", "change"], body :=
    [.asg (.tup [4, 5]) (.tup [(.call (.g "Disk") [(.c (.int 8))]), (.list true [])]),
    .asg (.x 6) (.call (.g "_law_begun") [(.x 4), (.x 1)]),
    .asg (.attr (.x 4) "crash_at") (.x 3),
    .try_
      [.for_ (.x 7) (.e (.x 2))
        [.expr (.call (.g "_law_changed") [(.x 4), (.x 6), (.x 7), (.bin .Add (.c (.int 7)) (.call (.g "len") [(.x 5)]))]),
        .expr (.meth (.x 5) "append" [(.x 7)])]]
      [.ret (some (.list false [(.meth (.x 4) "survivor" [(.call (.g "_law_choices") [(.x 0)])]), (.call (.g "len") [(.x 5)])]))],
    .ret (some (.c .none))] }
noncomputable def B.lCrashRight : Def := { params := 4, dflt := [], locals := ["source", "first", "changes", "crash", "told", "disk", "done", "left", "old", "new", "lots", "pages", "later"], body :=
    [.asg (.x 4) (.call (.g "_law_crashed") [(.x 0), (.x 1), (.x 2), (.x 3)]),
    .ifs (.cmp .Is (.x 4) (.c .none))
      [.ret (some (.c (.bool false)))]
      [],
    .asg (.tup [5, 6]) (.x 4),
    .ifs (.cmp .Eq (.call (.g "_law_take") [(.x 0), (.c (.int 2))]) (.c (.int 0)))
      [.asg (.attr (.x 5) "crash_at") (.bin .Add (.bin .Add (.attr (.x 5) "steps") (.c (.int 1))) (.call (.g "_law_take") [(.x 0), (.c (.int 5))])),
      .try_
        [.expr (.call (.g "_law_recovered") [(.x 5)]),
        .asg (.attr (.x 5) "crash_at") (.c .none)]
        [.asg (.x 5) (.meth (.x 5) "survivor" [(.call (.g "_law_choices") [(.x 0)])])]]
      [],
    .asg (.x 7) (.call (.g "_law_recovered") [(.x 5)]),
    .asg (.tup [8, 9, 10]) (.sub (.x 2) (.x 6)),
    .ifs (.bop .And (.cmp .NotEq (.x 7) (.meth (.c (.bytes [])) "join" [(.x 8)])) (.cmp .NotEq (.x 7) (.meth (.c (.bytes [])) "join" [(.x 9)])))
      [.ret (some (.c (.bool false)))]
      [],
    .asg (.x 11) (.ite (.cmp .Eq (.x 7) (.meth (.c (.bytes [])) "join" [(.x 8)])) (.x 8) (.x 9)),
    .asg (.x 12) (.bin .Add (.slice (.x 11) none (some (.neg (.c (.int 1))))) (.list false [(.bin .Mult (.c (.bytes [122])) (.c (.int 64))), (.bin .Mult (.c (.bytes [121])) (.c (.int 64)))])),
    .asg (.x 10) (.list false [(.list false [(.call (.g "len") [(.x 11)])]), (.list false [(.bin .Add (.call (.g "len") [(.x 11)]) (.c (.int 1)))])]),
    .expr (.call (.g "_law_changed") [(.x 5), (.meth (.x 5) "open" [(.c (.str "db"))]), (.tup [(.x 11), (.x 12), (.x 10)]), (.c (.int 99))]),
    .ret (some (.cmp .Eq (.call (.g "_law_recovered") [(.x 5)]) (.meth (.c (.bytes [])) "join" [(.x 12)])))] }
noncomputable def B.law : Def := { params := 1, dflt := [], locals := ["script", "source", "first", "changes", "disk", "file", "begin", "at", "change", "turn"], body :=
    [.asg (.x 1) (.call (.g "_law_pool") [(.x 0)]),
    .asg (.tup [2, 3]) (.call (.g "_law_changes") [(.x 1)]),
    .asg (.x 4) (.call (.g "Disk") [(.c (.int 8))]),
    .asg (.x 5) (.call (.g "_law_begun") [(.x 4), (.x 2)]),
    .asg (.x 6) (.attr (.x 4) "steps"),
    .for_ (.tup [7, 8]) (.enum (.x 3))
      [.expr (.call (.g "_law_changed") [(.x 4), (.x 5), (.x 8), (.bin .Add (.c (.int 7)) (.x 7))])],
    .ifs (.cmp .NotEq (.call (.g "_law_recovered") [(.x 4)]) (.meth (.c (.bytes [])) "join" [(.sub (.sub (.x 3) (.neg (.c (.int 1)))) (.c (.int 1)))]))
      [.ret (some (.c (.bool false)))]
      [],
    .for_ (.x 9) (.rng [(.c (.int 2))])
      [.ifs (.not (.call (.g "_law_crash_right") [(.x 1), (.x 2), (.x 3), (.bin .Add (.bin .Add (.x 6) (.c (.int 1))) (.call (.g "_law_take") [(.x 1), (.bin .Sub (.attr (.x 4) "steps") (.x 6))]))]))
        [.ret (some (.c (.bool false)))]
        []],
    .ret (some (.c (.bool true)))] }
noncomputable def tab : Fn → Def
  | .putNumber => B.putNumber
  | .getNumber => B.getNumber
  | .isPageSize => B.isPageSize
  | .recordSum => B.recordSum
  | .jInit => B.jInit
  | .jFile => B.jFile
  | .jRecordSize => B.jRecordSize
  | .jBegin => B.jBegin
  | .jAdd => B.jAdd
  | .jSync => B.jSync
  | .jReadHead => B.jReadHead
  | .jIsHot => B.jIsHot
  | .jPlay => B.jPlay
  | .jFinish => B.jFinish
  | .lockInit => B.lockInit
  | .fInit => B.fInit
  | .fSize => B.fSize
  | .fRead => B.fRead
  | .fWrite => B.fWrite
  | .fTruncate => B.fTruncate
  | .fSync => B.fSync
  | .fSurviving => B.fSurviving
  | .cInit => B.cInit
  | .cFollowing => B.cFollowing
  | .dInit => B.dInit
  | .dStep => B.dStep
  | .dCheckRoom => B.dCheckRoom
  | .dExists => B.dExists
  | .dOpen => B.dOpen
  | .dDelete => B.dDelete
  | .dSurvivor => B.dSurvivor
  | .putOctets => B.putOctets
  | .cutOctets => B.cutOctets
  | .lPool => B.lPool
  | .lTake => B.lTake
  | .lPage => B.lPage
  | .lChanges => B.lChanges
  | .lBegun => B.lBegun
  | .lLot => B.lLot
  | .lChanged => B.lChanged
  | .lRecovered => B.lRecovered
  | .lChoices => B.lChoices
  | .lCrashed => B.lCrashed
  | .lCrashRight => B.lCrashRight
  | .law => B.law
end Mine
end
section
namespace Mine
def topRunT (tb : String → Option Builtin) (p : Program) (w : World) (n₀ : Nat) (ann : Option Value) : Nat → SharedT → Thread → Option SharedT
  | 0, _, _ => none
  | n + 1, s, t => match through t with
    | true => some s
    | false => match stepOk n₀ ann t with
      | false => none
      | true => match stepT (denote tb) p w s t with
        | some (s', t') => topRunT tb p w n₀ ann n s' t'
        | none => none
theorem topRunT_spec {tb : String → Option Builtin} {p : Program} {w : World} {n₀ : Nat} {ann : Option Value} : ∀ {n : Nat} {s s' : SharedT} {t : Thread},
    topRunT tb p w n₀ ann n s t = some s' → topRun tb p w n₀ ann n s.abs t = some s'.abs
  | 0, _, _, _, h => by cases h
  | n + 1, s, s', t, h => by
    unfold topRunT at h
    unfold topRun
    cases he : through t with
    | true => rw [he] at h; cases h; rfl
    | false =>
      rw [he] at h
      cases hk : stepOk n₀ ann t with
      | false => rw [hk] at h; cases h
      | true =>
        rw [hk] at h
        cases hs : stepT (denote tb) p w s t with
        | none => rw [hs] at h; cases h
        | some r => obtain ⟨s₂, t₂⟩ := r; rw [hs] at h; rw [stepT_spec hs]; exact topRunT_spec h
def prog : Program := Challenge.pw_nt0108_01
def keep : List Nat := [0, 2, 3, 4, 5, 7, 8, 9, 10, 11, 12, 14, 15, 16, 17, 18, 19, 21, 22, 24, 25, 26, 27, 28, 30, 31, 32, 33, 34, 35, 36, 37, 38, 39, 40, 41]
def viewP : Program := view prog keep
def looseN : List Str := [Str.ofString "WORD", Str.ofString "NOT_SYNCED", Str.ofString "LockTable"]
noncomputable def bootT (P : Params) : BT :=
  .node (boot_o_0 P) (.node (boot_o_1 P) (.node (boot_o_3 P) (.node (boot_o_7 P) .nil .nil) .nil) (.node (boot_o_5 P) (.node (boot_o_9 P) .nil .nil) .nil))
    (.node (boot_o_2 P) (.node (boot_o_4 P) (.node (boot_o_8 P) .nil .nil) .nil) (.node (boot_o_6 P) (.node (boot_o_10 P) .nil .nil) .nil))
noncomputable def bootS (P : Params) (os : OsState) : SharedT := ⟨bootT P, 11, (boot_heap P).life, Array.mk [], boot_drawn, boot_toks, os⟩
theorem boot_abs (P : Params) (os : OsState) : (bootS P os).abs = ⟨boot_heap P, Array.mk [], boot_drawn, boot_toks, os⟩ := by kernel_rfl
end Mine
end
section
open PySem.Calls
namespace Mine
noncomputable def exMakesIn (K : Frag) (C : Addr) : Bool := match K.lookup C with
  | some ⟨_, _, .cls cd, sl⟩ => !cd.abstract && !cd.hasDel && cd.hasDict && (sl.toList[4]?).join == some (.builtin "Exception.__new__") && !cd.mro.isEmpty && cd.mro.contains (.ref C) && cd.mro.contains (.type "Exception") && cd.mro.contains (.type "BaseException") &&
      !cd.mro.contains (.type "AttributeError") && !cd.mro.contains (.type "NameError") && !cd.mro.contains (.type "tuple") && specialIn K (.ref C) "__call__" == some (some (.builtin "type.__call__")) && instIn K (.ref C) (.type "type") == some true && typeIn K (.ref C) == some (.type "type")
  | _ => false
noncomputable def excTail : List Value := [.type "Exception", .type "BaseException", .type "object"]
noncomputable def excMro : List Value → Bool
  | [] => false
  | c :: r => withA (asRef c) (fun u_ => excMro r) || (c :: r == excTail)
noncomputable def initStmts (l : List Stmt) : Bool := withA (asOne l) fun s => withA (asAssign s) fun p => withA (asAttr p.1) fun q => withA (asName q.1) fun x => withA (asName p.2.1) fun y => x.1 == ("self" : Str) && q.2.1 == ("message" : Str) && y.1 == ("message" : Str)
noncomputable def plainArgs (p : Arguments) : Bool := p.posonlyargs.isEmpty && p.kwonlyargs.isEmpty && p.vararg.isNone && p.kwarg.isNone
noncomputable def visN (d : Def) (m : Nat) : Vis := (List.range m).zip ((d.locals.take m).map Str.ofString)
noncomputable def fnAt : Fn → Addr
  | .putNumber => 84 | .getNumber => 91 | .isPageSize => 98 | .recordSum => 105
  | .jInit => 119 | .jFile => 126 | .jRecordSize => 133 | .jBegin => 140 | .jAdd => 147 | .jSync => 154 | .jReadHead => 161 | .jIsHot => 168 | .jPlay => 175 | .jFinish => 182
  | .lockInit => 203 | .fInit => 338 | .fSize => 345 | .fRead => 352 | .fWrite => 359 | .fTruncate => 366 | .fSync => 373 | .fSurviving => 387
  | .cInit => 408 | .cFollowing => 415 | .dInit => 437 | .dStep => 444 | .dCheckRoom => 451 | .dExists => 458 | .dOpen => 465 | .dDelete => 472 | .dSurvivor => 479
  | .putOctets => 500 | .cutOctets => 507 | .lPool => 514 | .lTake => 521 | .lPage => 528 | .lChanges => 533 | .lBegun => 540 | .lLot => 547 | .lChanged => 554 | .lRecovered => 561
  | .lChoices => 566 | .lCrashed => 573 | .lCrashRight => 580 | .law => 587
noncomputable def clsAt : Cls → Addr
  | .journal => 185 | .locks => 320 | .file => 390 | .choices => 418 | .disk => 489
noncomputable def seen : Fn → Nat
  | .lChanges => 9
  | .lChoices => 1
  | .law => 10
  | f => (tab f).locals.length
noncomputable def allFn : List Fn := [.putNumber, .getNumber, .isPageSize, .recordSum, .jInit, .jFile, .jRecordSize, .jBegin, .jAdd, .jSync, .jReadHead, .jIsHot, .jPlay, .jFinish,
  .lockInit, .fInit, .fSize, .fRead, .fWrite, .fTruncate, .fSync, .fSurviving, .cInit, .cFollowing, .dInit, .dStep, .dCheckRoom, .dExists, .dOpen, .dDelete, .dSurvivor,
  .putOctets, .cutOctets, .lPool, .lTake, .lPage, .lChanges, .lBegun, .lLot, .lChanged, .lRecovered, .lChoices, .lCrashed, .lCrashRight, .law]
noncomputable def allCls : List Cls := [.journal, .locks, .file, .choices, .disk]
noncomputable def needed : List Addr := [1, 3, 34, 35, 37, 38, 74, 75, 430] ++ (allCls.map clsAt ++ allFn.map fnAt).flatMap fun a => [a - 1, a]
noncomputable def fragOf (h : Heap) : Frag := needed.filterMap fun a => (h.get? a).map fun o => (a, o)
noncomputable def asFunc (d : Data) : Option {f : FuncData // d = .func f} := if h : d.ctorIdx = 7 then Data.func.elim d h fun f => some ⟨f, rfl⟩ else none
noncomputable def asSeq (d : Data) : Option {p : Array Value × Nat // d = .seq p.1 p.2} := if h : d.ctorIdx = 2 then Data.seq.elim d h fun a b => some ⟨(a, b), rfl⟩ else none
noncomputable def asStmts (d : FuncBody) : Option {l : List Stmt // d = .stmts l} := if h : d.ctorIdx = 0 then FuncBody.stmts.elim d h fun a => some ⟨a, rfl⟩ else none
noncomputable def asInt (v : Value) : Option {p : Int × Tok // v = .int p.1 p.2} := if h : v.ctorIdx = 4 then Value.int.elim v h fun a b => some ⟨(a, b), rfl⟩ else none
noncomputable def asBytes (v : Value) : Option {p : Array UInt8 × Tok // v = .bytes p.1 p.2} := if h : v.ctorIdx = 7 then Value.bytes.elim v h fun a b => some ⟨(a, b), rfl⟩ else none
noncomputable def litB : V → Value → Bool
  | .int i, w => withA (asInt w) fun p => i == p.1
  | .none, w => w == .none
  | _, _ => false
noncomputable def litsB : List V → List Value → Bool
  | [], ws => ws.isEmpty
  | v :: vs, ws => match ws with
    | w :: ws => litB v w && litsB vs ws
    | [] => false
noncomputable def dfltB (K : Frag) (ds : List V) (dV : Value) : Bool := (dV == .none && ds.isEmpty) || withA (asRef dV) fun T => (K.lookup T).any fun o => withA (asSeq o.data) fun p => litsB ds p.1.toList
noncomputable def funB (K : Frag) (a : Addr) (P : Arguments → List Stmt → Scope → Value → Bool) : Bool := (K.lookup a).any fun o => withA (asFunc o.data) fun fd => withA (asStmts fd.body) fun b =>
  (fd.globals == mainGlobals && fd.closure.isEmpty && fd.builtins == builtinsNs) && codeIn K fd.code fd.qualname && fd.scope.kind == .function && !fd.scope.isCoroutine && !fd.scope.isGenerator && plainArgs fd.params && P fd.params b fd.scope fd.defaults
noncomputable def nodupB : List Str → Bool
  | [] => true
  | x :: r => !r.contains x && nodupB r
noncomputable def defB (K : Frag) (f : Fn) : Bool :=
  funB K (fnAt f) fun prms b sc dV => (prms.args.map (·.arg) == ((tab f).locals.take (tab f).params).map Str.ofString && Nat.ble (tab f).params (seen f) && Nat.ble (seen f) (tab f).locals.length && nodupB (((tab f).locals.take (seen f)).map Str.ofString)) &&
    (visN (tab f) (seen f)).all (fun p => sc.names.lookup p.2 == some .local || sc.names.lookup p.2 == some .cell) && Nat.ble (tab f).dflt.length (tab f).params && dfltB K (tab f).dflt dV && RSs sc.names (visN (tab f) (seen f)) (tab f).body b
noncomputable def globV (mg : Str → Option Value) (s : Str) : V → Bool
  | .int i => (mg s).any fun w => withA (asInt w) fun p => i == p.1
  | .bytes b => (mg s).any fun w => withA (asBytes w) fun p => b.toArray == p.1
  | .fn f => mg s == some (.ref (fnAt f))
  | .cls c => mg s == some (.ref (clsAt c))
  | .bi v => mg s == none && bootBuiltins s == some v && s != "__name__"
  | _ => false
noncomputable def globB (mg : Str → Option Value) : Bool := gnames.all fun n => globV mg (Str.ofString n) (gval n)
noncomputable def attrB (K : Frag) (a : Addr) (n : Str) : Bool := plainGet K a n && findIn K (.ref a) n == some none && takerIn K a n == some none
noncomputable def methB (K : Frag) (a : Addr) (n : Str) (f : Fn) : Bool := plainGet K a n && findIn K (.ref a) n == some (some (.ref (fnAt f)))
noncomputable def clsB (K : Frag) (c : Cls) : Bool :=
  (attrNames.all fun n => attrB K (clsAt c) (Str.ofString n)) && (hasDictIn K (clsAt c) && plainOver K (clsAt c) && findIn K (.ref (clsAt c)) (Str.ofString "__setattr__") == some (some (.builtin "object.__setattr__"))) &&
  ((methTab c).all fun p => methB K (clsAt c) (Str.ofString p.1) p.2) && (makesIn K (clsAt c) && findIn K (.ref (clsAt c)) (Str.ofString "__init__") == some (some (.ref (fnAt (initOf c)))) && keepIn K (.ref (clsAt c)))
noncomputable def excF (prms : Arguments) (b : List Stmt) (sc : Scope) (dV : Value) : Bool :=
  initStmts b && sc.names.lookup ("self" : Str) == some .local && sc.names.lookup ("message" : Str) == some .local && sc.names.all (fun x => x.2 != .cell) && prms.args.map (·.arg) == ([("self" : Str), ("message" : Str)] : List Str) && dV == .none
noncomputable def excB (K : Frag) : Bool :=
  (exMakesIn K 75 && keepIn K (.ref 75) && findIn K (.ref 75) "__init__" == some (some (.ref 35)) && typeIn K (.ref 35) == some (.type "function")) && (clsIn K 75).any (fun cd => cd.hasDict && excMro cd.mro) &&
  (findIn K (.ref 75) "__setattr__" == some (some (.builtin "object.__setattr__")) && takerIn K 75 "message" == some none) && funB K 35 excF
noncomputable def dictAt : Data → Str → Option Value
  | .dict es _, n => nsFind es n
  | _, _ => none
noncomputable def mgK (K : Frag) (n : Str) : Option Value := (K.lookup mainGlobals).bind fun o => dictAt o.data n
noncomputable def allB (K : Frag) : Bool :=
  (globB (mgK K) && mgK K (Str.ofString "law") == some (.ref 587) && mgK K (Str.ofString "CrashError") == some (.ref 75) && (K.lookup mainGlobals).isSome) &&
  ((K.lookup sysModules).isSome && K.all fun p => p.2.cls != .type "list") && allCls.all (clsB K) && (allFn.all fun f => isFn K (.ref (fnAt f)) && keepIn K (.ref (fnAt f)) && defB K f) && excB K
end Mine
end
section
open PySem.Calls
namespace Mine
theorem run_ac (w : World) (os : OsState) : (topRunT treeTable Challenge.pw_nt0108_01 w 11 (some (.ref 6)) 9000 (bootS w.params os) (topStub Challenge.pw_nt0108_01)).map (fun s => (staticsOk (importedModules Challenge.pw_nt0108_01.main.body) (boot_heap w.params) s.abs.heap && namesBound Challenge.pw_nt0108_01 s.abs.heap && gensDone s.abs && laidKept (boot_heap w.params) s.abs.heap, allB (fragOf s.abs.heap))) = some (true, true) := by kernel_rfl
theorem run_b (w : World) (os : OsState) : (topRunT treeTable Challenge.pw_nt0108_01 w 11 (some (.ref 6)) 9000 (bootS w.params os) (topStub Challenge.pw_nt0108_01)).map (fun s => openSeen viewP looseN (importedModules Challenge.pw_nt0108_01.main.body) (fun u_ => true) false s.abs) = some (openGood viewP looseN) := by kernel_rfl
end Mine
end
section
namespace Mine
open PySem.Sem (wp)
noncomputable def badIds : List String := ["bytearray.__contains__", "bytearray.__mod__", "_struct.pack_into.held", "bytearray.__rmod__", "bytearray.find.held"] ++ Builtin.Bytes.decodersThatHold
noncomputable def okCode : Code → Prop
  | .builtin id _ => badIds.contains id = false
  | _ => True
noncomputable def OkBelow (Γ : Ctx) : Prop := ∀ x ∈ Γ.below, okCode x.1
noncomputable def OkC (Γ : Ctx) : Prop := okCode Γ.code ∧ OkBelow Γ
noncomputable def wpC {α : Type} (M : Model) (A : Around) (t : Sem α) (Q : α → Shared → Prop) (E : Value → Shared → Prop) (s : Shared) : Prop :=
  ∀ Γ p, Γ.In A → OkC Γ → wp M Γ t (fun a u_ s' => Q a s') (fun e u_ s' => E e s') p s
noncomputable def codeC (M : Model) (A : Around) (c : Code) (R : Result → Shared → Prop) (s : Shared) : Prop :=
  ∀ Γ p, Γ.code = c → Γ.Below A → OkBelow Γ → wpCode M Γ R p s
section
variable {α β : Type} {M : Model} {A : Around} {E : Value → Shared → Prop} {s : Shared}
theorem wpC_of {t : Sem α} {Q : α → Shared → Prop} (h : wpAny M A t Q E s) : wpC M A t Q E s := fun Γ p hΓ u_ => h Γ p hΓ
theorem codeC_of {c : Code} {R : Result → Shared → Prop} (h : codeAny M A c R s) : codeC M A c R s := fun Γ p hc hΓ u_ => h Γ p hc hΓ
theorem wpC_pure {a : α} {Q : α → Shared → Prop} (h : Q a s) : wpC M A (pure a) Q E s := fun u_ u_ u_ u_ => h
theorem wpC_throw {e : Value} {Q : α → Shared → Prop} (h : E e s) : wpC M A (throw e : Sem α) Q E s := fun u_ u_ u_ u_ => h
theorem wpC_mono {t : Sem α} {Q Q' : α → Shared → Prop} {E' : Value → Shared → Prop} (h : wpC M A t Q E s)
    (hQ : ∀ a s, Q a s → Q' a s) (hE : ∀ e s, E e s → E' e s) : wpC M A t Q' E' s :=
  fun Γ p hΓ ok => Sem.wp_mono M Γ t (fun a u_ s => hQ a s) (fun e u_ s => hE e s) p s (h Γ p hΓ ok)
theorem wpC_bind {m : Sem α} {f : α → Sem β} {Q : β → Shared → Prop} (h : wpC M A m (fun a s' => wpC M A (f a) Q E s') E s) : wpC M A (m >>= f) Q E s := fun Γ p hΓ ok => by
  rw [Sem.wp_bind']
  exact Sem.wp_mono M Γ m (fun a p' s' h' => h' Γ p' hΓ ok) (fun u_ u_ u_ h' => h') p s (h Γ p hΓ ok)
theorem wpC_then {m : Sem α} {f : α → Sem β} {Q : β → Shared → Prop} (h : wpAny M A m (fun a s' => wpC M A (f a) Q E s') E s) : wpC M A (m >>= f) Q E s := wpC_bind (wpC_of h)
theorem wpC_tryCatch {m : Sem α} {k : Value → Sem α} {Q : α → Shared → Prop} (h : wpC M A m Q (fun e s' => wpC M A (k e) Q E s') s) : wpC M A (tryCatch m k) Q E s := fun Γ p hΓ ok => by
  rw [Sem.wp_tryCatch']
  exact Sem.wp_mono M Γ m (fun u_ u_ u_ h' => h') (fun e p' s' h' => h' Γ p' hΓ ok) p s (h Γ p hΓ ok)
theorem wpC_onRaise {m : Sem α} {k : Value → Sem Unit} {Q : α → Shared → Prop}
    (h : wpC M A m Q (fun e s' => wpC M A (k e) (fun u_ s'' => E e s'') E s') s) : wpC M A (m.onRaise k) Q E s := fun Γ p hΓ ok => by
  rw [Sem.wp_onRaise]
  exact Sem.wp_mono M Γ m (fun u_ u_ u_ h' => h') (fun e p' s' h' => h' Γ p' hΓ ok) p s (h Γ p hΓ ok)
theorem wpC_attempt {m : Sem α} {Q : Except Value α → Shared → Prop} (h : wpC M A m (fun a => Q (.ok a)) (fun e => Q (.error e)) s) : wpC M A m.attempt Q E s :=
  fun Γ p hΓ ok => by rw [Sem.wp_attempt]; exact h Γ p hΓ ok
theorem wpC_holding {vs : List Value} {m : Sem α} {Q : α → Shared → Prop} (h : wpC M A m Q E s) : wpC M A (holding vs m) Q E s := fun Γ p hΓ ok => by rw [Sem.wp_holding]; exact h Γ p hΓ ok
theorem wpC_keep {vs : List Value} {m : Sem α} {Q : α → Shared → Prop} (h : wpC M A m Q E s) : wpC M A (m.keep vs) Q E s := fun Γ p hΓ ok => by
  rw [Sem.wp_keep]; exact h Γ p hΓ ok
theorem wpC_standAt {pos : Pos} {Q : Unit → Shared → Prop} (h : Q () s) : wpC M A (standAt pos) Q E s := fun u_ u_ u_ u_ => h
theorem wpC_rule {t : String} {Q : Unit → Shared → Prop} (h : Q () s) : wpC M A (rule t) Q E s := fun u_ u_ u_ u_ => h
theorem wpC_point {Q : Unit → Shared → Prop} (h : Q () s) : wpC M A point Q E s := fun u_ u_ u_ u_ => h
theorem wpC_operate {vs : List Value} {m : Sem Value} {Q : Value → Shared → Prop} (h : wpC M A m Q E s) : wpC M A (operate vs m) Q E s := fun Γ p hΓ ok => by
  rw [Sem.wp_operate]; exact h Γ p hΓ ok
theorem wpC_release {vs keep : List Value} {Q : Unit → Shared → Prop} (h : Q () s) : wpC M A (release vs keep) Q E s := wpC_of (wpAny_release h)
theorem wpC_of_eq {t : Sem α} {a : α} {Q : α → Shared → Prop} (e : t = pure a) (h : Q a s) : wpC M A t Q E s := by rw [e]; exact wpC_pure h
theorem wpC_ite {c : Prop} [Decidable c] {a b : Sem α} {Q : α → Shared → Prop} (ha : c → wpC M A a Q E s) (hb : ¬ c → wpC M A b Q E s) : wpC M A (if c then a else b) Q E s := by
  split
  · exact ha (by assumption)
  · exact hb (by assumption)
theorem wpC_no {a b : Sem α} {Q : α → Shared → Prop} (h : wpC M A b Q E s) : wpC M A (if false = true then a else b) Q E s := h
theorem wpC_yes {a b : Sem α} {Q : α → Shared → Prop} (h : wpC M A a Q E s) : wpC M A (if true = true then a else b) Q E s := h
theorem wpC_pos {c : Prop} [Decidable c] {a b : Sem α} {Q : α → Shared → Prop} (hc : c) (h : wpC M A a Q E s) : wpC M A (if c then a else b) Q E s := if_pos hc ▸ h
theorem wpC_neg {c : Prop} [Decidable c] {a b : Sem α} {Q : α → Shared → Prop} (hc : ¬ c) (h : wpC M A b Q E s) : wpC M A (if c then a else b) Q E s := if_neg hc ▸ h
theorem wpAny_no {a b : Sem α} {Q : α → Shared → Prop} (h : wpAny M A b Q E s) : wpAny M A (if false = true then a else b) Q E s := h
theorem wpAny_yes {a b : Sem α} {Q : α → Shared → Prop} (h : wpAny M A a Q E s) : wpAny M A (if true = true then a else b) Q E s := h
theorem wpAny_pos {c : Prop} [Decidable c] {a b : Sem α} {Q : α → Shared → Prop} (hc : c) (h : wpAny M A a Q E s) : wpAny M A (if c then a else b) Q E s := if_pos hc ▸ h
theorem wpAny_neg {c : Prop} [Decidable c] {a b : Sem α} {Q : α → Shared → Prop} (hc : ¬ c) (h : wpAny M A b Q E s) : wpAny M A (if c then a else b) Q E s := if_neg hc ▸ h
theorem codeC_mono {c : Code} {R R' : Result → Shared → Prop} (h : codeC M A c R s) (hR : ∀ r s, R r s → R' r s) : codeC M A c R' s := fun Γ p hc hΓ ok => wpCode_mono hR (h Γ p hc hΓ ok)
theorem ok_enter {Γ : Ctx} (ok : OkC Γ) (c : Code) (hd : Option Value) (p : Pos) : OkBelow (Γ.enter c hd p) := fun x hx => by
  rcases List.mem_cons.mp hx with rfl | hx
  · exact ok.1
  · exact ok.2 x hx
theorem wpC_run {c : Code} {h : Option Value} {Q : Flow → Shared → Prop}
    (hc : codeC M (A.mark h) c (fun r s' => match r with | .ok f => Q f s' | .error e => E e s') s) (hnb : h ≠ some byPass := by intro x; cases x) : wpC M A (run c h) Q E s :=
  fun Γ p hΓ ok => by rw [Sem.wp_run]; exact hc _ p rfl (hΓ.enter c h p hnb) (ok_enter ok c h p)
theorem wpC_runValue {c : Code} {Q : Value → Shared → Prop}
    (hc : codeC M A c (fun r s' => match r with | .ok (.ret v) => Q v s' | .ok _ => False | .error e => E e s') s) : wpC M A (runValue c) Q E s :=
  fun Γ p hΓ ok => by rw [Sem.wp_runValue]; exact hc _ p rfl (hΓ.enter c none p (by intro x; cases x)) (ok_enter ok c none p)
theorem wpC_call {f : Value} {pos : List Value} {kw : List (Str × Value)} {Q : Value → Shared → Prop}
    (hc : codeC M A (.call f ⟨pos, kw⟩) (fun r s' => match r with | .ok (.ret v) => Q v s' | .ok _ => False | .error e => E e s') s) : wpC M A (call f pos kw) Q E s := wpC_runValue hc
theorem codeC_of_tree {c : Code} {R : Result → Shared → Prop} (hok : okCode c)
    (h : wpC M (A.under c) (M.den c) (fun fin s' => match fin with | .done f => R (.ok f) s' | .again c' => c'.quiet = true ∧ codeC M A c' R s') (fun e s' => R (.error e) s') s) : codeC M A c R s := fun Γ p hc hΓ ok => by
  rw [wpCode_iff_wp, hc]
  refine Sem.wp_mono M Γ _ (fun fin p' s' h' => ?_) (fun u_ u_ u_ h' => h') p s (h Γ p (hc ▸ hΓ.in) ⟨by rw [hc]; exact hok, ok⟩)
  cases fin with
  | done f => exact h'
  | again c' => exact ⟨h'.1, h'.2 (Γ.goto c') p' rfl (hΓ.goto c') ok⟩
theorem not_held {id : String} {l : List String} (h : l.contains id = false) {x : String} (hx : l.contains x = true) : ¬ id = x := fun e => by rw [e, hx] at h; cases h
theorem dif_no {c : Prop} [Decidable c] {α : Type} {t : c → α} {e : ¬ c → α} {x : α} (h : ¬ c) (k : e h = x) : dite c t e = x := (dif_neg h).trans k
theorem wpC_exported {v : Value} {Q : Bool → Shared → Prop} (h : Q false s) : wpC M A (Builtin.Bytes.exported v) Q E s := fun Γ p hΓ ok => by
    show Q (List.any _ _) s
    refine Eq.mpr (congrArg (fun b => Q b s) (List.any_eq_false.mpr fun x hx => ne_true_of_eq_false ?_)) h
    have ho : okCode x.1 := by
      rcases List.mem_cons.mp hx with rfl | hx
      · exact ok.1
      · exact ok.2 x hx
    clear hx h
    obtain ⟨c, q⟩ := x
    cases c with
    | builtin id args =>
      have hn : badIds.contains id = false := ho
      delta Builtin.Bytes.exported.match_1
      show dite _ _ _ = _
      refine dif_no (not_held hn (x := "bytearray.__contains__") (by decide +kernel)) ?_
      refine dif_no (not_held hn (x := "bytearray.__mod__") (by decide +kernel)) ?_
      refine dif_no (not_held hn (x := "bytearray.__rmod__") (by decide +kernel)) ?_
      refine dif_no (not_held hn (x := "_struct.pack_into.held") (by decide +kernel)) ?_
      refine dif_no (not_held hn (x := "bytearray.find.held") (by decide +kernel)) ?_
      obtain ⟨pos, kw⟩ := args
      cases pos with
      | nil => rfl
      | cons u tl =>
        show (_ && _) = false
        rw [Bool.and_eq_false_iff]
        refine .inr ?_
        cases q : Builtin.Bytes.decodersThatHold.contains id with
        | false => rfl
        | true =>
          have h2 : badIds.contains id = true := List.contains_iff_mem.mpr (List.mem_append_right _ (List.contains_iff_mem.mp q))
          rw [hn] at h2; cases h2
    | _ => rfl
end
end Mine
end
section
namespace Mine
noncomputable def Exc2 (B : Heap) (e T : Addr) (cls fl : Value) (h : Heap) : Prop :=
  ∃ oe vs oT ts, h.get? e = some oe ∧ oe.cls = cls ∧ oe.data = .fields vs ∧ vs[1]? = some (.ref T) ∧ vs[2]? = some .none ∧ T ≠ e ∧ B.get? T = none ∧ h.get? T = some oT ∧ oT.data = .fields ts ∧ ts[3]? = some fl
noncomputable def Noted (B : Heap) (l : List Env) (e : Addr) (cls fl : Value) (h : Heap) : Prop := B.StaysIn h ∧ B.get? e = none ∧ h.FunFrames B l ∧ ∃ T, Exc2 B e T cls fl h
section
variable {M : Model} {A : Around} {s : Shared} {B : Heap} {env : Env} {outer : List Env} {L e : Addr} {cls fl : Value} {Q : Unit → Shared → Prop} {E : Value → Shared → Prop}
theorem entry2 {oe : Obj} {vs : Array Value} {head : Value} {hadNext : Bool} (hfr : A.frames = some (env :: outer)) (hl : s.heap.FunFrames B (env :: outer)) (hf : env.frame = some L) (he : s.heap.get? e = some oe) (hkb : B.StaysIn s.heap) (hen : B.get? e = none)
    (hd : oe.data = .fields vs) (hsz : 2 < vs.size) (h2 : vs[2]? = some .none) (h : ∀ h', Noted B (env :: outer) e oe.cls (rawInt L) h' → s.heap.UpToSlots h' → Q () { s with heap := h' }) :
    wpAny M A (do let a ← frameOf env; let pl ← entryPlaceOf L hadNext; let b ← EntryCells.newEntry head a .none (rawInt L) .none pl; setField (.ref e) 1 b) Q E s := by
  have apart : e ∉ (env :: outer).filterMap (·.frame) := fun hm => by
    obtain ⟨_, o, ho, hnf⟩ := hl.mem hm
    rw [he] at ho; cases ho; exact hnf vs hd
  refine wpAny_bind (wpAny_frameOf_fun hfr hl hf fun h₁ hs => wpAny_bind (wpAny_entryPlaceOf fun pl hpl => ?_))
  unfold EntryCells.newEntry newFields
  refine wpAny_bind (wpAny_newObj_type ?_ (hpl.sizeOk5 _ _ _ _ _))
  generalize hT : ({ cls := .type "traceback", dict := none, data := .fields ([head, .ref L, .none, rawInt L, .none] ++ (if pl.isEmpty then List.replicate 6 Value.none else pl)).toArray } : Obj) = ob
  have obd : ob.data = .fields ([head, .ref L, .none, rawInt L, .none] ++ (if pl.isEmpty then List.replicate 6 Value.none else pl)).toArray := by rw [← hT]
  have obf : ob.isFreed = false := by rw [← hT]; rfl
  have e1 : h₁.get? e = some oe := (hs.2.1 e apart).trans he
  have k1 : B.StaysIn h₁ := fun b o q => (hs.2.1 b fun hm => by rw [(hl.mem hm).1] at q; cases q).trans (hkb b o q)
  have e2 : (h₁.push ob).get? e = some oe := Heap.get?_push_of_some _ e1
  have Te : h₁.objs.size ≠ e := Nat.ne_of_gt (Heap.lt_size e1)
  refine wpAny_setField e2 hd (by exact Nat.le_of_lt (by assumption)) ?_
  have d3 := Obj.data_mapFields hd (·.setIfInBounds 1 (Value.ref h₁.objs.size))
  have e3 := Heap.get?_update_self (Obj.mapFields (·.setIfInBounds 1 (Value.ref h₁.objs.size))) e2 (Obj.isFreed_of_fields d3)
  have T3 : ((h₁.push ob).update e (Obj.mapFields (·.setIfInBounds 1 (Value.ref h₁.objs.size)))).get? h₁.objs.size = some ob := (Heap.get?_update_other _ _ (Ne.symm Te)).trans (Heap.get?_push_size h₁ obf)
  have keep : ∀ b o, b ≠ e → h₁.get? b = some o → ((h₁.push ob).update e (Obj.mapFields (·.setIfInBounds 1 (Value.ref h₁.objs.size)))).get? b = some o := fun b o hb q => by
    rw [Heap.get?_update_other _ _ (Ne.symm hb)]; exact Heap.get?_push_of_some _ q
  have noR : ∀ b o, s.heap.get? b = some o → (∀ vs, o.data ≠ .fields vs) → b ≠ e := fun b o q hn r => by
    rw [r, he] at q; cases q; exact hn vs hd
  refine h _ ⟨fun b o q => keep b o (fun r => by rw [r, hen] at q; cases q) (k1 b o q), hen, hl.of_keeps fun b o q hn => ?_, h₁.objs.size, ?_⟩ fun b o q hn => ?_
  · obtain ⟨sl, hx⟩ := hs.2.2 b o q
    exact ⟨_, keep b _ (noR b o q hn) hx, rfl⟩
  · refine ⟨_, _, _, _, e3, Obj.cls_mapFields _ _, d3, by simp [show 1 < vs.size by exact Nat.le_of_lt (by assumption)], by rw [Array.getElem?_setIfInBounds_ne (by decide)]; exact h2, Te, k1.fresh, T3, obd, ?_⟩
    first | (simp; done) | (rcases hpl with rfl | ⟨_, _, _, _, _, _, _, rfl⟩ <;> simp)
  · obtain ⟨sl, hx⟩ := hs.2.2 b o q
    exact ⟨sl, keep b _ (noR b o q hn) hx⟩
theorem flight2 {l : List Env} {x : Option Addr} (hn : Noted B l e cls fl s.heap) (h : ∀ h', Noted B l e cls (x.elim .none fun f => rawInt f) h' → s.heap.UpToSlots h' → Q () { s with heap := h' }) : wpAny M A (setFlight (.ref e) x) Q E s := by
  refine foldg fun G0 fin0 => ?_
  obtain ⟨k, en, fr, T, oe, vs, oT, ts, h1, h2, h3, h4, h5, h6, h7, h8, h9, h10⟩ := hn
  refine fin0 ?_
  have sz : 3 < ts.size := (Array.getElem?_eq_some_iff.mp h10).1
  have other : ∀ b, b ≠ T → (s.heap.update T (Obj.mapFields (·.setIfInBounds 3 (x.elim .none fun f => rawInt f)))).get? b = s.heap.get? b := fun b hb => Heap.get?_update_other _ _ (Ne.symm hb)
  have noR : ∀ b o, s.heap.get? b = some o → (∀ vs, o.data ≠ .fields vs) → b ≠ T := fun b o q hn r => by
    rw [r, h8] at q; cases q; exact hn ts h9
  unfold setFlight
  refine wpAny_bind (wpAny_field h1 h3 h4 ?_)
  refine rwg (if_pos (show (Value.ref T != Value.none) = true from by simp)) ?_
  refine wpAny_setField h8 h9 sz (h _ ⟨fun b o q => (other b fun r => by rw [r, h7] at q; cases q).trans (k b o q), en, fr.of_keeps fun b o q hn => ⟨o, (other b (noR b o q hn)).trans q, rfl⟩, T, ?_⟩ fun b o q hn => ⟨o.slots, (other b (noR b o q hn)).trans q⟩)
  exact ⟨oe, vs, _, _, (other e (Ne.symm h6)).trans h1, h2, h3, h4, h5, h6, h7, Heap.get?_update_self _ h8 (Obj.isFreed_of_fields (Obj.data_mapFields h9 _)), Obj.data_mapFields h9 _, by simp [sz]⟩
theorem note2 (hfr : A.frames = some (env :: outer)) (hf : env.frame = some L) (hn : Noted B (env :: outer) e cls .none s.heap) (h : ∀ h', Noted B (env :: outer) e cls (rawInt L) h' → s.heap.UpToSlots h' → Q () { s with heap := h' }) :
    wpAny M A (noteFrame (.ref e) env) Q E s := by
  refine foldg fun G0 fin0 => ?_
  obtain ⟨k, en, fr, T, oe, vs, oT, ts, h1, h2, h3, h4, h5, h6, h7, h8, h9, h10⟩ := hn
  refine fin0 ?_
  unfold noteFrame
  simp only [hf]
  refine wpAny_bind (wpAny_field h1 h3 h4 ?_)
  refine rwg (if_pos (show (Value.ref T != Value.none) = true from by simp)) ?_
  refine wpAny_bind (wpAny_field h8 h9 h10 ?_)
  refine rwg (if_neg (show ¬ ((Value.none == rawInt L) = true) from by simp [rawInt])) ?_
  refine wpAny_bind (wpAny_setField h8 h9 (Array.getElem?_eq_some_iff.mp h10).1 ?_)
  have other : ∀ b, b ≠ T → (s.heap.update T (Obj.mapFields (·.setIfInBounds 3 Value.none))).get? b = s.heap.get? b := fun b hb => Heap.get?_update_other _ _ (Ne.symm hb)
  have noR : ∀ b o, s.heap.get? b = some o → (∀ vs, o.data ≠ .fields vs) → b ≠ T := fun b o q hn r => by
    rw [r, h8] at q; cases q; exact hn ts h9
  refine entry2 hfr (fr.of_keeps fun b o q hn => ⟨o, (other b (noR b o q hn)).trans q, rfl⟩) hf ((other e (Ne.symm h6)).trans h1) (fun b o q => (other b fun r => by rw [r, h7] at q; cases q).trans (k b o q)) en h3
    (Array.getElem?_eq_some_iff.mp h5).1 h5 fun h' x u => h h' (by rw [← h2]; exact x) fun b o q hn => u b o ((other b (noR b o q hn)).trans q) hn
theorem note2_again (hf : env.frame = some L) (hn : Noted B (env :: outer) e cls (rawInt L) s.heap) (h : Q () s) : wpAny M A (noteFrame (.ref e) env) Q E s := by
  refine foldg fun G0 fin0 => ?_
  obtain ⟨k, en, fr, T, oe, vs, oT, ts, h1, h2, h3, h4, h5, h6, h7, h8, h9, h10⟩ := hn
  refine fin0 ?_
  unfold noteFrame
  simp only [hf]
  refine wpAny_bind (wpAny_field h1 h3 h4 ?_)
  refine rwg (if_pos (show (Value.ref T != Value.none) = true from by simp)) ?_
  refine wpAny_bind (wpAny_field h8 h9 h10 ?_)
  refine rwg (if_pos (show (rawInt L == rawInt L) = true from by simp)) ?_
  exact wpAny_pure h
theorem note2_new {oe : Obj} {vs : Array Value} (hfr : A.frames = some (env :: outer)) (hf : env.frame = some L) (hl : s.heap.FunFrames B (env :: outer)) (he : s.heap.get? e = some oe) (hkb : B.StaysIn s.heap) (hen : B.get? e = none)
    (hd : oe.data = .fields vs) (h1 : vs[1]? = some .none) (h2 : vs[2]? = some .none) (h : ∀ h', Noted B (env :: outer) e oe.cls (rawInt L) h' → s.heap.UpToSlots h' → Q () { s with heap := h' }) : wpAny M A (noteFrame (.ref e) env) Q E s := by
  unfold noteFrame
  simp only [hf]
  refine wpAny_bind (wpAny_field he hd h1 ?_)
  refine rwg (if_neg (by decide)) ?_
  exact entry2 hfr hl hf he hkb hen hd (Array.getElem?_eq_some_iff.mp h2).1 h2 h
end
end Mine
end
section
namespace Mine
structure Facts (C : Cx) (base : Heap) (mg mb : Str → Option Value) : Prop where
  inn : C.K.In base
  lim : base.NoLimit
  sys : (base.get? sysModules).isSome
  g : base.Ns mainGlobals mg
  b : base.Ns builtinsNs mb
  glob : ∀ n ∈ gnames, ∃ val, (mg (Str.ofString n) = some val ∨ (mg (Str.ofString n) = none ∧ mb (Str.ofString n) = some val)) ∧ ∀ z, VR C z (gval n) val
  attr : ∀ c, ∀ n ∈ attrNames, plainGet C.K (C.clsA c) (Str.ofString n) = true ∧ findIn C.K (.ref (C.clsA c)) (Str.ofString n) = some none ∧ takerIn C.K (C.clsA c) (Str.ofString n) = some none
  dict : ∀ c, hasDictIn C.K (C.clsA c) = true ∧ plainOver C.K (C.clsA c) = true ∧ findIn C.K (.ref (C.clsA c)) (Str.ofString "__setattr__") = some (some (.builtin "object.__setattr__"))
  meth : ∀ c n f, methOf c n = some f → plainGet C.K (C.clsA c) (Str.ofString n) = true ∧ findIn C.K (.ref (C.clsA c)) (Str.ofString n) = some (some (.ref (C.fnA f)))
  make : ∀ c, makesIn C.K (C.clsA c) = true ∧ findIn C.K (.ref (C.clsA c)) (Str.ofString "__init__") = some (some (.ref (C.fnA (initOf c)))) ∧ keepIn C.K (.ref (C.clsA c)) = true
  fn : ∀ f, isFn C.K (.ref (C.fnA f)) = true ∧ keepIn C.K (.ref (C.fnA f)) = true
noncomputable def Holds (z fr : Fz) (env : Env) (x : Str) (val : Value) : Prop :=
  (env.kindOf x = some .local ∧ ∃ o es n, fr env.locals = some o ∧ o.data = .dict es n ∧ StrKeys es ∧ nsFind es x = some val) ∨
  (env.kindOf x = some .cell ∧ ∃ c o, env.cells.lookup x = some c ∧ z c = some o ∧ o.data = .cell (some val))
noncomputable def EnvR (C : Cx) (z fr : Fz) (env : Env) (ρ : Loc) (vis : Vis) : Prop :=
  ∀ p ∈ vis, ∀ v, ρ[p.1]? = some (some v) → ∃ val, Holds z fr env p.2 val ∧ VR C z v val
noncomputable def NewX (B : Heap) (l : List Env) (a : Addr) (cls : Value) (h : Heap) : Prop :=
  B.StaysIn h ∧ B.get? a = none ∧ h.FunFrames B l ∧ ∃ oe vs, h.get? a = some oe ∧ oe.cls = cls ∧ oe.data = .fields vs ∧ vs[1]? = some .none ∧ vs[2]? = some .none
noncomputable def ExcAt (B : Heap) (l : List Env) (a : Addr) (cls : Value) (h : Heap) : Prop :=
  Noted B l a cls .none h ∨ (∃ L env l', l = env :: l' ∧ env.frame = some L ∧ Noted B l a cls (rawInt L) h) ∨ NewX B l a cls h
noncomputable def Fly (C : Cx) (base : Heap) (l : List Env) (z fr : Fz) (σ : Store) (e : Value) (h : Heap) : Prop :=
  ∃ a B, e = .ref a ∧ Sim0 C base z fr σ B ∧ Frs base fr h ∧ ExcAt B l a (.ref C.excA) h
structure AOk (A : Around) (l : List Env) (fr : Fz) : Prop where
  frames : A.frames = some l
  there : ∀ e ∈ l, e.scope.kind ≠ .module ∧ ∃ L, e.frame = some L ∧ (fr L).isSome
noncomputable def Room (A : Around) (n : Nat) : Prop := A.depth + n + 10 < recursionLimit ∧ A.units + 40 * n + 400 < cLine
noncomputable def HOk (base : Heap) (A : Around) : Prop := A.handled = none ∨ ∃ e o vs, A.handled = some (.ref e) ∧ base.get? e = some o ∧ o.data = .fields vs ∧ vs[2]? = some .none
section
variable (C : Cx) (base : Heap) (l : List Env) (z fr : Fz) (g : Array GenState) (d : Drawn) (os : OsState)
noncomputable def PostR {α β : Type} (rel : Fz → β → α → Prop) (Q : β → Store → Prop) (Q' : α → Shared → Prop) : Prop :=
  ∀ z' σ' b a h' k', Zle z z' → Sim C base z' fr σ' h' → rel z' b a → Q b σ' → Q' a ⟨h', g, d, k', os⟩
noncomputable def PostX (X : Store → Prop) (E' : Value → Shared → Prop) : Prop :=
  ∀ z' σ' e h' k', Zle z z' → Fly C base l z' fr σ' e h' → X σ' → E' e ⟨h', g, d, k', os⟩
noncomputable def Ref {α β : Type} (A : Around) (t : Sem α) (tr : Tr β) (rel : Fz → β → α → Prop) : Prop :=
  ∀ z₁ σ h k g d os (Q : β → Store → Prop) (X : Store → Prop), Zle z z₁ → tr σ Q X → Sim C base z₁ fr σ h → (A.handled = none ∨ ∀ σ, ¬ X σ) →
    ∀ (Q' : α → Shared → Prop) (E' : Value → Shared → Prop), PostR C base z₁ fr g d os rel Q Q' → PostX C base l z₁ fr g d os X E' → wpC (model C.prog C.w) A t Q' E' ⟨h, g, d, k, os⟩
end
section
variable {C : Cx} {base : Heap} {l : List Env} {z z' fr : Fz} {g : Array GenState} {d : Drawn} {os : OsState}
theorem PostX.mono {X : Store → Prop} {E' : Value → Shared → Prop} (x : PostX C base l z fr g d os X E') (hz : Zle z z') : PostX C base l z' fr g d os X E' :=
  fun z₁ σ e h k hz₁ => x z₁ σ e h k (hz.trans hz₁)
theorem PostR.mono {α β : Type} {rel : Fz → β → α → Prop} {Q : β → Store → Prop} {Q' : α → Shared → Prop} (x : PostR C base z fr g d os rel Q Q') (hz : Zle z z') : PostR C base z' fr g d os rel Q Q' :=
  fun z₁ σ b a h k hz₁ => x z₁ σ b a h k (hz.trans hz₁)
theorem Ref.mono {α β : Type} {A : Around} {t : Sem α} {tr : Tr β} {rel : Fz → β → α → Prop} (r : Ref C base l z fr A t tr rel) (hz : Zle z z') : Ref C base l z' fr A t tr rel :=
  fun z₁ σ h k g d os Q X hz₁ => r z₁ σ h k g d os Q X (hz.trans hz₁)
theorem Ref.bind {α β γ δ : Type} {A : Around} {t : Sem α} {f : α → Sem γ} {tr : Tr β} {kt : β → Tr δ} {rel : Fz → β → α → Prop} {rel' : Fz → δ → γ → Prop}
    (r : Ref C base l z fr A t tr rel) (hk : ∀ z₁ b a, Zle z z₁ → rel z₁ b a → Ref C base l z₁ fr A (f a) (kt b) rel') :
    Ref C base l z fr A (t >>= f) (fun σ Q X => tr σ (fun b σ => kt b σ Q X) X) rel' := by
  intro z₁ σ h k g d os Q X hz q S hX Q' E' hQ hE
  refine wpC_bind (r z₁ σ h k g d os _ X hz q S hX _ _ (fun z₂ σ₂ b a h₂ k₂ hz₂ S₂ rb qb => ?_) hE)
  exact hk z₂ b a (hz.trans hz₂) rb z₂ σ₂ h₂ k₂ g d os Q X (Zle.refl _) qb S₂ hX Q' E' (hQ.mono hz₂) (hE.mono hz₂)
end
end Mine
end
section
namespace Mine
section
variable {C : Cx} {base : Heap} {A : Around} {z fr : Fz} {σ : Store} {h : Heap} {g : Array GenState} {d : Drawn} {k : Tok} {os : OsState} {E' : Value → Shared → Prop}
theorem VR.int_inv {i : Int} {v : Value} (r : VR C z (.int i) v) : ∃ t, v = .int i t := by simpa only [VR] using r
theorem VR.bytes_inv {b : List UInt8} {v : Value} (r : VR C z (.bytes b) v) : ∃ t, v = .bytes b.toArray t := by simpa only [VR] using r
theorem VR.str_inv {b : String} {v : Value} (r : VR C z (.str b) v) : ∃ t, v = .str (Str.ofString b) t := by simpa only [VR] using r
theorem VR.list_inv {vs : List V} {v : Value} (r : VR C z (.list vs) v) : ∃ a o ws n, v = .ref a ∧ z a = some o ∧ o.cls = .type "list" ∧ o.data = .seq ws n ∧ VRs C z vs ws.toList := by simpa only [VR] using r
theorem VR.tup_inv {vs : List V} {v : Value} (r : VR C z (.tup vs) v) : ∃ a ws n, v = .ref a ∧ z a = some { cls := .type "tuple", data := .seq ws n } ∧ VRs C z vs ws.toList := by simpa only [VR] using r
theorem VR.ref_inv {a : Addr} {v : Value} (r : VR C z (.ref a) v) : v = .ref a := by simpa only [VR] using r
theorem VR.none_inv {v : Value} (r : VR C z .none v) : v = .none := by simpa only [VR] using r
theorem VR.bool_inv {b : Bool} {v : Value} (r : VR C z (.bool b) v) : v = .bool b := by simpa only [VR] using r
theorem VR.fn_inv {f : Fn} {v : Value} (r : VR C z (.fn f) v) : v = .ref (C.fnA f) := by simpa only [VR] using r
theorem VR.cls_inv {f : Cls} {v : Value} (r : VR C z (.cls f) v) : v = .ref (C.clsA f) := by simpa only [VR] using r
theorem VR.bi_inv {b v : Value} (r : VR C z (.bi b) v) : v = b := by simpa only [VR] using r
@[elab_as_elim] theorem VR.int_e {i : Int} {v : Value} {P : Value → Prop} (r : VR C z (.int i) v) (h : ∀ t, P (.int i t)) : P v := by obtain ⟨t, rfl⟩ := r.int_inv; exact h t
@[elab_as_elim] theorem VR.bytes_e {b : List UInt8} {v : Value} {P : Value → Prop} (r : VR C z (.bytes b) v) (h : ∀ t, P (.bytes b.toArray t)) : P v := by obtain ⟨t, rfl⟩ := r.bytes_inv; exact h t
@[elab_as_elim] theorem VR.str_e {b : String} {v : Value} {P : Value → Prop} (r : VR C z (.str b) v) (h : ∀ t, P (.str (Str.ofString b) t)) : P v := by obtain ⟨t, rfl⟩ := r.str_inv; exact h t
@[elab_as_elim] theorem VR.ref_e {a : Addr} {v : Value} {P : Value → Prop} (r : VR C z (.ref a) v) (h : P (.ref a)) : P v := r.ref_inv ▸ h
@[elab_as_elim] theorem VR.none_e {v : Value} {P : Value → Prop} (r : VR C z .none v) (h : P .none) : P v := r.none_inv ▸ h
@[elab_as_elim] theorem VR.bool_e {b : Bool} {v : Value} {P : Value → Prop} (r : VR C z (.bool b) v) (h : P (.bool b)) : P v := r.bool_inv ▸ h
@[elab_as_elim] theorem VRs.one {v : V} {ws : List Value} {P : List Value → Prop} (r : VRs C z [v] ws) (h : ∀ w, VR C z v w → P [w]) : P ws := by
  obtain ⟨w, ws', rfl, r1, r2⟩ := r.inv
  rw [r2.inv0]; exact h w r1
@[elab_as_elim] theorem VRs.two {v v' : V} {ws : List Value} {P : List Value → Prop} (r : VRs C z [v, v'] ws) (h : ∀ w w', VR C z v w → VR C z v' w' → P [w, w']) : P ws := by
  obtain ⟨w, ws', rfl, r1, r2⟩ := r.inv
  exact r2.one fun w' r3 => h w w' r1 r3
@[elab_as_elim] theorem VRs.zero {ws : List Value} {P : List Value → Prop} (r : VRs C z [] ws) (h : P []) : P ws := r.inv0 ▸ h
theorem VR.int (i : Int) (t : Tok) : VR C z (.int i) (.int i t) := by simp only [VR]; exact ⟨t, rfl⟩
theorem VR.bool (b : Bool) : VR C z (.bool b) (.bool b) := by simp only [VR]
theorem VR.none : VR C z .none .none := by simp only [VR]
theorem VR.str (s : String) (t : Tok) : VR C z (.str s) (.str (Str.ofString s) t) := by simp only [VR]; exact ⟨t, rfl⟩
theorem VR.bytes (b : List UInt8) (t : Tok) : VR C z (.bytes b) (.bytes b.toArray t) := by simp only [VR]; exact ⟨t, rfl⟩
theorem VR.bytes' (b : List UInt8) {a : Array UInt8} (t : Tok) (e : a = b.toArray) : VR C z (.bytes b) (.bytes a t) := by subst e; exact VR.bytes b t
theorem VR.ref (a : Addr) : VR C z (.ref a) (.ref a) := by simp only [VR]
theorem VR.isList (S : Sim C base z fr σ h) {vs : List V} {v : Value} (r : VR C z (.list vs) v) : ∃ a ws, v = .ref a ∧ h.IsList a ws ∧ VRs C z vs ws.toList := by
  refine foldg fun G0 fin0 => ?_
  obtain ⟨a, o, ws, n, rfl, hz, hc, hd, hs⟩ := r.list_inv
  refine fin0 ?_
  exact ⟨a, ws, rfl, ⟨_, (S.fz a _ hz).1, hc, n, hd⟩, hs⟩
theorem Sim.pushSeq (S : Sim C base z fr σ h) (cls : String) (hc : cls = "tuple" ∨ cls = "list") (ws : Array Value) :
    Sim C base (z.set h.objs.size { cls := .type cls, data := .seq ws }) fr σ (h.push { cls := .type cls, data := .seq ws }) ∧ Zle z (z.set h.objs.size { cls := .type cls, data := .seq ws }) := by
  refine foldg fun G0 fin0 => ?_
  obtain ⟨nz, nf, nb, ns, no⟩ := S.new_off (get_size h)
  refine fin0 ?_
  have S' := S.keep (h' := h.push { cls := .type cls, data := .seq ws }) fun u_ u_ e => Heap.get?_push_of_some _ e
  refine ⟨S'.freeze (Heap.get?_push_size _ rfl) nz nf nb ?_, Zle.set nz⟩
  rintro (⟨o, e⟩ | ⟨a, c, fs, e, dd⟩)
  · rw [ns] at e; cases e
  · obtain ⟨ob, ho⟩ := (S.cell a _ e).there
    exact no (.inr ⟨a, c, fs, e, dd.keep ho (Heap.get?_push_of_some _ ho)⟩)
theorem Sim.newList (S : Sim C base z fr σ h) {vs : List V} {ws : List Value} (hs : VRs C z vs ws) :
    ∃ z', Zle z z' ∧ Sim C base z' fr σ (h.push { cls := .type "list", data := .seq ws.toArray }) ∧ VR C z' (.list vs) (.ref h.objs.size) := by
  obtain ⟨S', zl⟩ := S.pushSeq "list" (.inr rfl) ws.toArray
  refine ⟨_, zl, S', ?_⟩
  simp only [VR]
  exact ⟨_, _, _, _, rfl, Fz.set_self .., rfl, rfl, by simpa using hs.mono zl.t⟩
theorem Sim.newTuple (S : Sim C base z fr σ h) {vs : List V} {ws : List Value} (hs : VRs C z vs ws) :
    ∃ z', Zle z z' ∧ Sim C base z' fr σ (h.push { cls := .type "tuple", data := .seq ws.toArray }) ∧ VR C z' (.tup vs) (.ref h.objs.size) := by
  obtain ⟨S', zl⟩ := S.pushSeq "tuple" (.inl rfl) ws.toArray
  refine ⟨_, zl, S', ?_⟩
  simp only [VR]
  exact ⟨_, _, _, rfl, Fz.set_self .., by simpa using hs.mono zl.t⟩
theorem pow_bits : (Builtin.Int.intBits 10 : Int) * 18 ≤ 2 ^ 27 ∧ (Builtin.Int.intBits 256 : Int) * 4 ≤ 2 ^ 27 := by decide +kernel
theorem op_bin {op : Operator} {va vb : V} {a b : Value} {Q : V → Store → Prop} {Q' : Value → Shared → Prop} (S : Sim C base z fr σ h) (ra : VR C z va a) (rb : VR C z vb b)
    (q : wBin op va vb fun v => Q v σ) (hQ : PostR C base z fr g d os (VR C) Q Q') : wpAny (model C.prog C.w) A (binaryOp op a b) Q' E' ⟨h, g, d, k, os⟩ := by
  have fin : ∀ v val k', VR C z v val → Q v σ → Q' val ⟨h, g, d, k', os⟩ := fun v val k' r q => hQ z σ v val h k' (Zle.refl z) S r q
  obtain ⟨v, r, q⟩ := q
  cases r with
  | addI =>
    refine ra.int_e fun t => ?_
    refine rb.int_e fun u => ?_
    exact add_int (fin _ _ _ (VR.int ..) q)
  | subI =>
    refine ra.int_e fun t => ?_
    refine rb.int_e fun u => ?_
    exact sub_int (fin _ _ _ (VR.int ..) q)
  | mulI _ _ hm =>
    refine ra.int_e fun t => ?_
    refine rb.int_e fun u => ?_
    exact mul_int (fin _ _ _ (VR.int ..) q) hm
  | divI _ _ h1 h2 =>
    refine ra.int_e fun t => ?_
    refine rb.int_e fun u => ?_
    exact floordiv_int h1 (fin _ _ _ (VR.int ..) q) (.inl h2)
  | modI _ _ h1 =>
    refine ra.int_e fun t => ?_
    refine rb.int_e fun u => ?_
    exact mod_int' h1 (fin _ _ _ (VR.int ..) q)
  | powI _ _ hq =>
    refine ra.int_e fun t => ?_
    refine rb.int_e fun u => ?_
    rcases hq with ⟨rfl, rfl⟩ | ⟨rfl, rfl⟩
    · exact pow_int (by decide) pow_bits.1 (fin _ _ _ (VR.int ..) q)
    · exact pow_int (by decide) pow_bits.2 (fin _ _ _ (VR.int ..) q)
  | addB _ _ hl =>
    refine ra.bytes_e fun t => ?_
    refine rb.bytes_e fun u => ?_
    exact KBy.add_bytes (by simpa using hl) fun t' k' => fin _ _ _ (VR.bytes' _ _ (by simp)) q
  | mulB _ _ hm =>
    refine ra.bytes_e fun t => ?_
    refine rb.int_e fun u => ?_
    obtain ⟨h1, h2, h3, h4⟩ := hm
    exact bytes_mul_any h4 (by lia) (by lia) h3 fun t' k' => fin _ _ _ (VR.bytes ..) q
  | addS =>
    refine ra.str_e fun t => ?_
    refine rb.str_e fun u => ?_
    have e : Str.ofString "db" ++ Str.ofString "-journal" = Str.ofString "db-journal" := by decide +kernel
    refine add_str (fun t' k' => ?_) (by decide +kernel)
    refine rwg e ?_
    exact fin _ _ _ (VR.str ..) q
  | addL _ _ hl =>
    obtain ⟨la, ws, rfl, hla, hs⟩ := ra.isList S
    obtain ⟨lb, us, rfl, hl', hs'⟩ := rb.isList S
    obtain ⟨⟨cls, dd, data, sl⟩, ho, hc, n, hd⟩ := hla
    obtain ⟨⟨cls2, dd2, data2, sl2⟩, ho2, hc2, n2, hd2⟩ := hl'
    simp only at hc hd hc2 hd2
    subst hc hd hc2 hd2
    have l1 := hs.length
    have l2 := hs'.length
    have e : ws ++ us = (ws.toList ++ us.toList).toArray := by simp
    refine concat_meets (s := ⟨h, g, d, k, os⟩) ⟨_, ho, rfl⟩ ⟨_, ho2, rfl⟩ noFill_list_add seq_list_add PySem.F.slot_list_add PySem.F.entry_list_add (PySem.F.args_list_add_2 _ _)
      (list_addW la lb ws us n n2 dd dd2 sl sl2 (by rw [sizeLine_eq]; simp at l1 l2; lia)) ⟨ho, ho2, ?_⟩
    refine rwg e ?_
    obtain ⟨z', zl, S', r'⟩ := S.newList (hs.append hs')
    exact hQ z' σ _ _ _ _ zl S' r' q
theorem op_iadd {va vb : V} {a b : Value} {Q : V → Store → Prop} {Q' : Value → Shared → Prop} (S : Sim C base z fr σ h) (ra : VR C z va a) (rb : VR C z vb b)
    (q : wAdd va vb fun v => Q v σ) (hQ : PostR C base z fr g d os (VR C) Q Q') : wpAny (model C.prog C.w) A (inplaceOp .Add a b) Q' E' ⟨h, g, d, k, os⟩ := by
  refine foldg fun G0 fin0 => ?_
  obtain ⟨x, rfl, q1⟩ := wInt_inv q
  obtain ⟨y, rfl, q2⟩ := wInt_inv (v := vb) q1
  obtain ⟨t, rfl⟩ := ra.int_inv; obtain ⟨u, rfl⟩ := rb.int_inv
  refine fin0 ?_
  exact wpAny_iadd_int (hQ z σ _ _ _ _ (Zle.refl z) S (VR.int ..) q2)
theorem op_neg {va : V} {a : Value} {Q : V → Store → Prop} {Q' : Value → Shared → Prop} (S : Sim C base z fr σ h) (ra : VR C z va a)
    (q : wNeg va fun v => Q v σ) (hQ : PostR C base z fr g d os (VR C) Q Q') : wpAny (model C.prog C.w) A (unaryOp .USub a) Q' E' ⟨h, g, d, k, os⟩ := by
  obtain ⟨x, rfl, q1⟩ := wInt_inv q
  refine ra.int_e fun t => ?_
  exact neg_int (hQ z σ _ _ _ _ (Zle.refl z) S (VR.int ..) q1)
end
end Mine
end
section
namespace Mine
theorem ofString_inj {a b : String} (h : Str.ofString a = Str.ofString b) : a = b := by
  rw [Str.ofString_eq_toList, Str.ofString_eq_toList] at h
  have h1 : a.toList.map Char.toNat = b.toList.map Char.toNat := by
    have := congrArg Str.cps h
    simpa using this
  have h2 : a.toList = b.toList := by
    generalize a.toList = l at h1
    generalize b.toList = m at h1
    induction l generalizing m with
    | nil => cases m with
      | nil => rfl
      | cons y m => simp at h1
    | cons x l ih => cases m with
      | nil => simp at h1
      | cons y m =>
        simp only [List.map_cons, List.cons.injEq] at h1
        rw [ih m h1.2, Char.ext (UInt32.toNat_inj.mp h1.1)]
  exact String.toList_inj.mp h2
theorem ofString_beq (a b : String) : (Str.ofString a == Str.ofString b) = decide (a = b) := by
  by_cases h : a = b
  · subst h; simp
  · simp only [h, decide_false, beq_eq_false_iff_ne, ne_eq]
    exact fun e => h (ofString_inj e)
section
variable {C : Cx} {base : Heap} {A : Around} {z fr : Fz} {σ : Store} {h : Heap} {g : Array GenState} {d : Drawn} {k : Tok} {os : OsState} {E' : Value → Shared → Prop}
noncomputable def BR : Fz → Bool → Value → Prop := fun u_ b v => v = .bool b
theorem ER.keys {C : Cx} {z : Fz} {fs : List (String × V)} : ∀ {es : List DictEntry}, ER C z fs es → ∀ e ∈ es, ∃ x : Str, (PySem.strKind C.prog C.w).is x e.key = true ∧ e.hash = (PySem.strKind C.prog C.w).hash x := by
  induction fs with
  | nil => intro _ h e he; rw [show _ = [] from h] at he; cases he
  | cons p r ih =>
    intro _ h e he
    obtain ⟨t, val, es', q, h1, h2⟩ := h
    subst q
    rcases List.mem_cons.mp he with rfl | he
    · exact ⟨Str.ofString p.1, strKind_is _ _ _ _, rfl⟩
    · exact ih h2 e he
theorem ER.length {C : Cx} {z : Fz} {fs : List (String × V)} : ∀ {es : List DictEntry}, ER C z fs es → es.length = fs.length := by
  induction fs with
  | nil => intro _ h; rw [show _ = [] from h]; rfl
  | cons p r ih => intro _ h; obtain ⟨t, val, es', q, h1, h2⟩ := h; subst q; exact congrArg Nat.succ (ih h2)
theorem ER.find {C : Cx} {z : Fz} (n : String) {fs : List (String × V)} : ∀ {es : List DictEntry}, ER C z fs es →
    (getF fs n = none ∧ es.find? (fun e => Value.isStrOf (Str.ofString n) e.key) = none) ∨ ∃ v val e, getF fs n = some v ∧ es.find? (fun e => Value.isStrOf (Str.ofString n) e.key) = some e ∧ e.val = val ∧ VR C z v val := by
  induction fs with
  | nil => intro _ h; rw [show _ = [] from h]; exact .inl ⟨rfl, rfl⟩
  | cons p r ih =>
    intro _ h
    obtain ⟨t, val, es', q, h1, h2⟩ := h
    subst q
    obtain ⟨kx, v⟩ := p
    simp only [getF, List.find?_cons, Value.isStrOf]
    by_cases e : kx = n
    · subst e
      simp only [if_true, beq_self_eq_true]
      exact .inr ⟨v, val, _, rfl, rfl, rfl, h1⟩
    · have : (Str.ofString n == Str.ofString kx) = false := by rw [ofString_beq]; simpa using fun q => e q.symm
      have this' : (Str.ofString kx == Str.ofString n) = false := by rw [ofString_beq]; simpa using e
      simp only [if_neg e, this, this']
      exact ih h2
theorem KR.value (n : String) {fs : List (String × V)} : ∀ {kvs : List (Str × Value)}, KR C z fs kvs →
    (getF fs n = none ∧ valueAt kvs (Str.ofString n) = none) ∨ ∃ v val, getF fs n = some v ∧ valueAt kvs (Str.ofString n) = some val ∧ VR C z v val := by
  induction fs with
  | nil => intro _ h; rw [show _ = [] from h]; exact .inl ⟨rfl, rfl⟩
  | cons p r ih =>
    intro _ h
    obtain ⟨val, es', q, h1, h2⟩ := h
    subst q
    obtain ⟨kx, v⟩ := p
    simp only [getF, valueAt, List.find?_cons]
    by_cases e : kx = n
    · subst e
      simp only [if_true, decide_true]
      exact .inr ⟨v, val, rfl, rfl, h1⟩
    · have : decide (Str.ofString kx = Str.ofString n) = false := by simpa using fun q => e (ofString_inj q)
      simp only [if_neg e, this]
      exact ih h2
theorem KR.length {fs : List (String × V)} : ∀ {es : List (Str × Value)}, KR C z fs es → es.length = fs.length := by
  induction fs with
  | nil => intro _ h; rw [show _ = [] from h]; rfl
  | cons p r ih => intro _ h; obtain ⟨val, es', q, h1, h2⟩ := h; subst q; exact congrArg Nat.succ (ih h2)
theorem dict_map (S : Sim C base z fr σ h) {r : Addr} {fs : List (String × V)} (e : σ r = some (.dict fs)) :
    ∃ f, h.MapOf (PySem.strKind C.prog C.w) r f ∧ ∀ n, (getF fs n = none ∧ f (Str.ofString n) = none) ∨ ∃ v val, getF fs n = some v ∧ f (Str.ofString n) = some val ∧ VR C z v val := by
  refine foldg fun G0 fin0 => ?_
  obtain ⟨kvs, h1, h2⟩ := S.cell r _ e
  refine fin0 ?_
  exact ⟨_, h1.mapOf, fun m => h2.value m⟩
theorem eqAt_bytes {A : Around} {s : Shared} (a b : List UInt8) (t u : Tok) : PySem.SeqAt.EqAt A s (.bytes a.toArray t) (.bytes b.toArray u) (decide (a = b)) := fun prog w E Q hq => by
  unfold eqBool
  refine wpAny_holding ?_
  refine wpAny_ite_split (fun hab => ?_) (fun u_ => ?_)
  · have e : a = b := by have := eq_of_beq hab; injection this with this; simpa using this
    subst e
    exact wpAny_bind (wpAny_rule (wpAny_pure (by simpa using hq)))
  · have e : (a.toArray.toList == b.toArray.toList) = decide (a = b) := by by_cases q : a = b <;> simp [q]
    have : wpAny (model prog w) A (compareOp .Eq (.bytes a.toArray t) (.bytes b.toArray u)) (fun v s' => wpAny (model prog w) A (truthOfDropped v) Q E s') E s :=
      eq_bytes (wpAny_truthy_bool (by rw [e]; exact hq))
    exact wpAny_bind this
theorem ints_of {ns : List Int} : ∀ {ws : List Value}, VRs C z (ns.map V.int) ws → IntsAre ws ns := by
  induction ns with
  | nil => intro _ h; rw [VRs.inv0 h]; exact .nil
  | cons n ns ih =>
    intro _ h
    obtain ⟨w, ws', rfl, h1, h2⟩ := VRs.inv h
    refine h1.int_e fun t => ?_
    exact .cons n t (ih h2)
theorem not_sys (S : Sim C base z fr σ h) (hb : (base.get? sysModules).isSome) {r : Addr} {o : O} (e : σ r = some o) : (r == sysModules) = false := by
  cases q : (r == sysModules) with
  | false => rfl
  | true =>
    have q := eq_of_beq q
    rw [← q, (S.off r o e).2.2] at hb
    cases hb
theorem isNone_eq {v : V} {a : Value} (r : VR C z v a) : (a == Value.none) = isNoneV v := by
  cases v with
  | none => have := r.none_inv; subst this; rfl
  | bool b => have := r.bool_inv; subst this; rfl
  | int i => obtain ⟨t, rfl⟩ := r.int_inv; rfl
  | str i => obtain ⟨t, rfl⟩ := r.str_inv; rfl
  | bytes i => obtain ⟨t, rfl⟩ := r.bytes_inv; rfl
  | tup vs => obtain ⟨_, _, _, rfl, _⟩ := r.tup_inv; rfl
  | list vs => obtain ⟨_, _, _, _, rfl, _⟩ := r.list_inv; rfl
  | ref x => have := r.ref_inv; subst this; rfl
  | fn x => have := r.fn_inv; subst this; rfl
  | cls x => have := r.cls_inv; subst this; rfl
  | bi x => have := r.bi_inv; subst this; rfl
theorem op_cmp {op : CmpOp} {va vb : V} {a b : Value} {Q : Bool → Store → Prop} {Q' : Value → Shared → Prop} (S : Sim C base z fr σ h) (hb : (base.get? sysModules).isSome) (hu : A.units + 64 < cLine) (ra : VR C z va a) (rb : VR C z vb b)
    (q : wCmp σ op va vb fun r => Q r σ) (hQ : PostR C base z fr g d os BR Q Q') : wpAny (model C.prog C.w) A (compareOp op a b) Q' E' ⟨h, g, d, k, os⟩ := by
  have fin : ∀ r k', Q r σ → Q' (.bool r) ⟨h, g, d, k', os⟩ := fun r k' q => hQ z σ r (.bool r) h k' (Zle.refl z) S rfl q
  obtain ⟨rr, hr, q⟩ := q
  cases hr with
  | lt =>
    refine ra.int_e fun t => ?_
    refine rb.int_e fun u => ?_
    exact lt_int (fin _ _ q)
  | le =>
    refine ra.int_e fun t => ?_
    refine rb.int_e fun u => ?_
    exact le_int (fin _ _ q)
  | gt =>
    refine ra.int_e fun t => ?_
    refine rb.int_e fun u => ?_
    exact gt_int (fin _ _ q)
  | ge =>
    refine ra.int_e fun t => ?_
    refine rb.int_e fun u => ?_
    exact ge_int (fin _ _ q)
  | eqI i j =>
    refine ra.int_e fun t => ?_
    refine rb.int_e fun u => ?_
    exact eq_int (by have e : (i == j) = decide (i = j) := by by_cases q : i = j <;> simp [q]
                     rw [e]; exact fin _ _ q)
  | neI i j =>
    refine ra.int_e fun t => ?_
    refine rb.int_e fun u => ?_
    exact ne_int (by have e : (i != j) = decide (i ≠ j) := by by_cases q : i = j <;> simp [q]
                     rw [e]; exact fin _ _ q)
  | eqB i j =>
    refine ra.bytes_e fun t => ?_
    refine rb.bytes_e fun u => ?_
    exact eq_bytes (by have e : (i.toArray.toList == j.toArray.toList) = decide (i = j) := by by_cases q : i = j <;> simp [q]
                       rw [e]; exact fin _ _ q)
  | neB i j =>
    refine ra.bytes_e fun t => ?_
    refine rb.bytes_e fun u => ?_
    exact ne_bytes (by have e : (i.toArray.toList != j.toArray.toList) = decide (i ≠ j) := by by_cases q : i = j <;> simp [q]
                       rw [e]; exact fin _ _ q)
  | eqS =>
    refine ra.str_e fun t => ?_
    refine rb.str_e fun u => ?_
    exact eq_str (by rw [ofString_beq]; exact fin _ _ q)
  | eqL ns ms =>
    obtain ⟨la, ws, rfl, hl, hs⟩ := ra.isList S
    obtain ⟨lb, us, rfl, hl', hs'⟩ := rb.isList S
    exact ke_eq_ints (xs := ws.toList) (ys := us.toList) (by simpa using hl) (by simpa using hl') (ints_of hs) (ints_of hs') hu (fin _ _ q)
  | neL xs ys lx ly =>
    obtain ⟨la, ws, rfl, hl, hs⟩ := ra.isList S
    obtain ⟨lb, us, rfl, hl', hs'⟩ := rb.isList S
    have l1 := hs.length
    have l2 := hs'.length
    simp only [List.length_map, Array.length_toList] at l1 l2
    by_cases hz : ws.size = us.size
    · have lens : xs.length = ys.length := by lia
      have each : ∀ j (h1 : j < ws.size) (h2 : j < us.size), PySem.SeqAt.EqAt A.in1 (⟨h, g, d, k, os⟩ : Shared) ws[j] us[j] (decide (xs[j]? = ys[j]?)) := fun j h1 h2 => by
        obtain ⟨x, hx⟩ : ∃ x, xs[j]? = some x := ⟨_, List.getElem?_eq_getElem (by lia)⟩
        obtain ⟨y, hy⟩ : ∃ y, ys[j]? = some y := ⟨_, List.getElem?_eq_getElem (by exact Nat.le_trans (by assumption) (Nat.le_of_eq (by assumption)))⟩
        obtain ⟨w1, e1, r1⟩ := hs.get (i := j) (v := V.bytes x) (by simp [hx])
        obtain ⟨w2, e2, r2⟩ := hs'.get (i := j) (v := V.bytes y) (by simp [hy])
        obtain ⟨t, rfl⟩ := r1.bytes_inv
        obtain ⟨u, rfl⟩ := r2.bytes_inv
        have e1' : ws[j] = .bytes x.toArray t := by simpa [h1] using e1
        have e2' : us[j] = .bytes y.toArray u := by simpa [h2] using e2
        refine rwg e1' ?_
        refine rwg e2' ?_
        refine rwg hx ?_
        refine rwg hy ?_
        have : decide (some x = some y) = decide (x = y) := by simp
        refine rwg this ?_
        exact eqAt_bytes x y t u
      refine PySem.SeqAt.RcNeAt.lists hl hl' hz (by lia) each _ _ _ _ ?_
      have e : (!(List.range ws.size).all fun j => decide (xs[j]? = ys[j]?)) = decide (xs ≠ ys) := by
        have hn : ws.size = xs.length := by assumption
        refine rwg hn ?_
        match xs, ys, lens, lx with
        | [], [], _, _ => rfl
        | [x], [y], _, _ =>
          by_cases q : x = y <;> simp [q, List.range_succ]
        | _ :: _ :: _, _, _, hh => simp at hh
      rw [e]; exact fin _ _ q
    · refine PySem.SeqAt.RcNeAt.lists_lengths hl hl' (by simpa using hz) (by lia) _ _ _ _ ?_
      have e : decide (xs ≠ ys) = true := by simp only [ne_eq, decide_eq_true_eq]; rintro rfl; exact hz (by lia)
      rw [e] at q; exact fin _ _ q
  | is =>
    refine rb.none_e ?_
    exact is_none (by rw [isNone_eq ra]; exact fin _ _ q)
  | isNot =>
    refine rb.none_e ?_
    exact isNot_none (by rw [isNone_eq ra]; exact fin _ _ q)
  | isIn s r es hr =>
    refine ra.str_e fun t => ?_
    refine rb.ref_e ?_
    obtain ⟨f, hm, hf⟩ := dict_map S hr
    refine wpAny_in_of (knd := PySem.strKind C.prog C.w) (strKind_is _ _ _ _) (not_sys S hb hr) hm ?_
    have e : (f (Str.ofString s)).isSome = (getF es s).isSome := by
      rcases hf s with ⟨x, y⟩ | ⟨v, val, x, y, _⟩ <;> rw [x, y] <;> rfl
    rw [e]; exact fin _ _ q
  | notIn s r es hr =>
    refine ra.str_e fun t => ?_
    refine rb.ref_e ?_
    obtain ⟨f, hm, hf⟩ := dict_map S hr
    refine wpAny_notIn_of (knd := PySem.strKind C.prog C.w) (strKind_is _ _ _ _) (not_sys S hb hr) hm ?_
    have e : (!(f (Str.ofString s)).isSome) = (getF es s).isNone := by
      rcases hf s with ⟨x, y⟩ | ⟨v, val, x, y, _⟩ <;> rw [x, y] <;> rfl
    rw [e]; exact fin _ _ q
end
end Mine
end
section
namespace Mine
theorem subscripted_plain {slice : PySem.Expr} (hn : notSlice slice = true) (o i : Value) : subscripted slice false o i = operate [o, i] (getItem o i) := by
  cases slice <;> first | rfl | cases hn
theorem seqIndex_bounds {k : Int} {n j : Nat} (h : seqIndex? k n = some j) (hn : n ≤ 1000000) : -(2 ^ 63) ≤ k ∧ k < 2 ^ 63 ∧ j < n ∧ (0 ≤ k → j = k.toNat) ∧ (k < 0 → -(n : Int) ≤ k ∧ j = (k + n).toNat) := by
  have hn : (n : Int) ≤ 1000000 := Int.ofNat_le.mpr hn
  unfold seqIndex? at h
  by_cases q : k < 0
  · rw [if_pos q] at h
    by_cases p : (decide (0 ≤ k + (n : Int)) && decide (k + (n : Int) < n)) = true
    · have e := Option.some.inj ((if_pos p).symm.trans h)
      rw [Bool.and_eq_true, decide_eq_true_eq, decide_eq_true_eq] at p
      have g : -(n : Int) ≤ k := Int.sub_zero k ▸ Int.neg_le_sub_right_of_le_add p.1
      exact ⟨Int.le_trans (Int.le_trans (by decide) (Int.neg_le_neg hn)) g, Int.lt_trans q (by decide), by rw [← e]; exact (Int.toNat_lt p.1).mpr p.2, fun w => absurd w (Int.not_le.mpr q), fun u_ => ⟨g, e.symm⟩⟩
    · cases (if_neg p).symm.trans h
  · rw [if_neg q] at h
    by_cases p : (decide (0 ≤ k) && decide (k < (n : Int))) = true
    · have e := Option.some.inj ((if_pos p).symm.trans h)
      rw [Bool.and_eq_true, decide_eq_true_eq, decide_eq_true_eq] at p
      exact ⟨Int.le_trans (by decide) p.1, Int.lt_of_lt_of_le p.2 (Int.le_trans hn (by decide)), by rw [← e]; exact (Int.toNat_lt p.1).mpr p.2, fun u_ => e.symm, fun w => absurd w q⟩
    · cases (if_neg p).symm.trans h
section
variable {C : Cx} {base : Heap} {A : Around} {z fr : Fz} {σ : Store} {h : Heap} {g : Array GenState} {d : Drawn} {k : Tok} {os : OsState} {E' : Value → Shared → Prop}
theorem op_list_item {value slice : PySem.Expr} {a : Addr} {ws : Array Value} {i : Int} {t : Tok} {j : Nat} {w : Value} {Q' : Value → Shared → Prop} (hn : notSlice slice = true) (hl : h.IsList a ws) (hz : ws.size ≤ 1000000)
    (hi : seqIndex? i ws.size = some j) (hw : ws[j]? = some w) (hq : Q' w ⟨h, g, d, k, os⟩) : wpAny (model C.prog C.w) A (subscriptTail value slice (.ref a) (.int i t)) Q' E' ⟨h, g, d, k, os⟩ := by
  refine foldg fun G0 fin0 => ?_
  obtain ⟨b1, b2, b3, b4, b5⟩ := seqIndex_bounds hi hz
  refine fin0 ?_
  refine tail_any (s := ⟨h, g, d, k, os⟩) hl.typeIs slot_list_getitem.lookup ?_ (subscripted_plain hn _ _)
  by_cases h0 : 0 ≤ i
  · exact wpAny_getItem_list hl h0 b2 (by rw [← b4 h0]; exact hw) hq
  · obtain ⟨b6, b7⟩ := b5 (by lia)
    exact wpAny_getItem_list_neg hl (by lia) b6 b1 (by rw [← b7]; exact hw) hq
theorem op_sub {value slice : PySem.Expr} {va vi : V} {a i : Value} {Q : V → Store → Prop} {Q' : Value → Shared → Prop} (hn : notSlice slice = true) (S : Sim C base z fr σ h) (ra : VR C z va a) (ri : VR C z vi i)
    (q : wSub σ va vi fun v => Q v σ) (hQ : PostR C base z fr g d os (VR C) Q Q') : wpAny (model C.prog C.w) A (subscriptTail value slice a i) Q' E' ⟨h, g, d, k, os⟩ := by
  have fin : ∀ v val k', VR C z v val → Q v σ → Q' val ⟨h, g, d, k', os⟩ := fun v val k' r q => hQ z σ v val h k' (Zle.refl z) S r q
  obtain ⟨v, r, q⟩ := q
  cases r with
  | list vs _ v hz e =>
    refine ri.int_e fun t => ?_
    obtain ⟨la, ws, rfl, hl, hs⟩ := ra.isList S
    obtain ⟨j, e1, e2⟩ := Option.bind_eq_some_iff.mp e
    obtain ⟨w, e3, rw'⟩ := hs.get e2
    have ln := hs.length
    simp only [Array.length_toList] at ln
    exact op_list_item hn hl (by lia) (by rw [ln]; exact e1) (by simpa using e3) (fin _ _ _ rw' q)
  | tup vs _ v hz e =>
    refine ri.int_e fun t => ?_
    obtain ⟨la, ws, n, rfl, hz', hs⟩ := ra.tup_inv
    obtain ⟨j, e1, e2⟩ := Option.bind_eq_some_iff.mp e
    obtain ⟨w, e3, rw'⟩ := hs.get e2
    have ln := hs.length
    simp only [Array.length_toList] at ln
    obtain ⟨b1, b2, b3, b4, b5⟩ := seqIndex_bounds e1 hz
    exact item_tupleT (s := ⟨h, g, d, k, os⟩) (l := ws.toList) ⟨_, (S.fz la _ hz').1, rfl, n, by simp⟩ b1 b2 (by simpa [ln] using e1) (by simpa using e3) (fin _ _ _ rw' q) (subscripted_plain hn _ _)
  | bytes b _ hb =>
    refine ri.int_e fun t => ?_
    refine ra.bytes_e fun u => ?_
    obtain ⟨h0, h1, h2⟩ := hb
    exact tail_any (s := ⟨h, g, d, k, os⟩) (typeIs_bytes _ _ _) FB.slot_bytes_getitem.lookup (getItem_bytes (by exact Nat.le_trans (by assumption) (Nat.le_of_ble_eq_true rfl)) h0 h1 (fin _ _ _ (VR.int ..) q)) (subscripted_plain hn _ _)
  | cell r vs _ v hr hz e =>
    refine ri.int_e fun t => ?_
    refine ra.ref_e ?_
    obtain ⟨ws, n, h1, hs⟩ := S.cell r _ hr
    obtain ⟨j, e1, e2⟩ := Option.bind_eq_some_iff.mp e
    obtain ⟨w, e3, rw'⟩ := hs.get e2
    have ln := hs.length
    simp only [Array.length_toList] at ln
    exact op_list_item hn ⟨_, h1, rfl, n, rfl⟩ (by lia) (by rw [ln]; exact e1) (by simpa using e3) (fin _ _ _ rw' q)
  | dict r es s v hr e =>
    refine ri.str_e fun t => ?_
    refine ra.ref_e ?_
    obtain ⟨f, hm, hf⟩ := dict_map S hr
    rcases hf s with ⟨x, _⟩ | ⟨v', val, x, y, rv⟩
    · rw [x] at e; cases e
    · rw [x] at e; cases e
      exact tail_any (s := ⟨h, g, d, k, os⟩) hm.typeIs slot_dict_getitem.lookup (wpAny_getItem_of (knd := PySem.strKind C.prog C.w) (strKind_is _ _ _ _) hm y (fin _ _ _ rv q)) (subscripted_plain hn _ _)
theorem getF_L {fs : List (String × V)} {es : List DictEntry} (r : ER C z fs es) (n : String) :
    (getF fs n = none ∧ getL (Str.ofString n) es = some none) ∨ ∃ v val, getF fs n = some v ∧ getL (Str.ofString n) es = some (some val) ∧ VR C z v val := by
  have eqf : (fun e : DictEntry => e.key.isStr (Str.ofString n)) = fun e => Value.isStrOf (Str.ofString n) e.key := funext fun e => by cases e.key <;> rfl
  have noref : es.any (fun x => x.refKey) = false := by
    rw [List.any_eq_false]
    intro e he
    refine foldg fun G0 fin0 => ?_
    obtain ⟨x, hx, _⟩ := r.keys e he
    obtain ⟨t, ht⟩ := Value.isStrOf_shape (show Value.isStrOf x e.key = true from hx)
    refine fin0 ?_
    simp [DictEntry.refKey, ht]
  unfold getL
  rw [eqf]
  refine foldg fun G0 fin0 => ?_
  rcases r.find n with ⟨a, b⟩ | ⟨v, val, e, a, b, c, q⟩
  · refine fin0 ?_
    refine .inl ⟨a, ?_⟩
    refine rwg b ?_
    simp [noref]
  · refine fin0 ?_
    refine .inr ⟨v, val, a, ?_, q⟩
    rw [b]; exact congrArg (fun x => some (some x)) c
theorem inst_at (S : Sim C base z fr σ h) {r : Addr} {c : Cls} {fs : List (String × V)} (e : σ r = some (.inst c fs)) :
    ∃ d es n, h.get? d = some (dictOf es n) ∧ DictOf h r d ∧ ER C z fs es ∧ PySem.W.InstAt h r (instObj (C.clsA c) d) (C.clsA c) (some (dictOf es n)) := by
  refine foldg fun G0 fin0 => ?_
  obtain ⟨d, es, n, h1, h2, h3⟩ := S.cell r _ e
  refine fin0 ?_
  exact ⟨d, es, n, h2, ⟨_, h1, rfl⟩, h3, ⟨h1, rfl, rfl, h2⟩⟩
theorem handed_of {v : V} {val : Value} (r : VR C z v val) (hn : notBi v = true) : handedIn val = true := by
  cases v with
  | none => have := r.none_inv; subst this; rfl
  | bool b => have := r.bool_inv; subst this; rfl
  | int i => obtain ⟨t, rfl⟩ := r.int_inv; rfl
  | str i => obtain ⟨t, rfl⟩ := r.str_inv; rfl
  | bytes i => obtain ⟨t, rfl⟩ := r.bytes_inv; rfl
  | tup vs => obtain ⟨_, _, _, rfl, _⟩ := r.tup_inv; rfl
  | list vs => obtain ⟨_, _, _, _, rfl, _⟩ := r.list_inv; rfl
  | ref x => have := r.ref_inv; subst this; rfl
  | fn x => have := r.fn_inv; subst this; rfl
  | cls x => have := r.cls_inv; subst this; rfl
  | bi x => cases hn
theorem op_attr {mg mb : Str → Option Value} (F : Facts C base mg mb) {n : String} (hn : attrNames.contains n = true) {va : V} {a : Value} {expr : Bool} {Q : V → Store → Prop} {Q' : Value → Shared → Prop} (S : Sim C base z fr σ h) (ra : VR C z va a)
    (q : wAttr σ va n fun v => Q v σ) (hQ : PostR C base z fr g d os (VR C) Q Q') : wpAny (model C.prog C.w) A (getAttr a (Str.ofString n) expr) Q' E' ⟨h, g, d, k, os⟩ := by
  have fin : ∀ v val k', VR C z v val → Q v σ → Q' val ⟨h, g, d, k', os⟩ := fun v val k' r q => hQ z σ v val h k' (Zle.refl z) S r q
  obtain ⟨v, r, q⟩ := q
  cases r with
  | mk r c fs _ v hr hv hb =>
    refine ra.ref_e ?_
    obtain ⟨dd, es, m, h2, hd, h3, I⟩ := inst_at S hr
    refine foldg fun G0 fin0 => ?_
    rcases getF_L h3 n with ⟨x, _⟩ | ⟨v', val, x, y, rv⟩
    · refine fin0 ?_
      rw [x] at hv; cases hv
    · refine fin0 ?_
      rw [x] at hv; cases hv
      obtain ⟨f1, f2, f3⟩ := F.attr c n (List.contains_iff_mem.mp hn)
      have X : C.K.In h := F.inn.keeps S.bas
      exact get_value (s := ⟨h, g, d, k, os⟩) X I (plainGet_of f1).1 (findObj_own (F.dict c).1 f2 rfl ((lookIn_dict _ _ _).trans y)) (handed_of rv hb) (fin _ _ _ rv q)
end
end Mine
end
section
namespace Mine
section
variable {C : Cx} {base : Heap} {A : Around} {z fr : Fz} {σ : Store} {h : Heap} {g : Array GenState} {d : Drawn} {k : Tok} {os : OsState} {E' : Value → Shared → Prop}
theorem ER.put {n : String} {v : V} {w : Value} {t : Tok} (rv : VR C z v w) {fs : List (String × V)} : ∀ {es : List DictEntry}, ER C z fs es →
    ER C z (putF fs n v) (putL (Str.ofString n) (PyData.keyHash C.w.params (Str.ofString n)) (.str (Str.ofString n) t) w es) := by
  induction fs with
  | nil =>
    intro _ h
    refine rwg (show _ = [] from h) ?_
    exact ⟨t, w, [], rfl, rv, rfl⟩
  | cons p r ih =>
    obtain ⟨kx, x⟩ := p
    intro _ h
    obtain ⟨u, val, es', q, h1, h2⟩ := h
    subst q
    unfold putF putL
    have e : (Value.str (Str.ofString kx) u).isStr (Str.ofString n) = decide (kx = n) := ofString_beq kx n
    refine rwg e ?_
    by_cases q : kx = n
    · subst q
      simp only [if_true, decide_true]
      exact ⟨u, w, es', rfl, rv, h2⟩
    · simp only [if_neg q, decide_eq_false q]
      exact ⟨u, val, _, rfl, h1, ih h2⟩
theorem putL_length (n : Str) (hs : Int) (key v : Value) (es : List DictEntry) : (putL n hs key v es).length ≤ es.length + 1 := by
  induction es with
  | nil => exact Nat.le_refl _
  | cons e r ih =>
    unfold putL
    split
    · exact Nat.le_succ _
    · exact Nat.succ_le_succ ih
theorem op_setattr {mg mb : Str → Option Value} (F : Facts C base mg mb) {n : String} (hn : attrNames.contains n = true) {vo v : V} {a w : Value} {Q : Store → Prop} {Q' : Unit → Shared → Prop} (S : Sim C base z fr σ h)
    (ra : VR C z vo a) (rw' : VR C z v w) (q : wSetAttr σ vo n v fun σ => Q σ) (hQ : ∀ σ' h' k', Sim C base z fr σ' h' → Q σ' → Q' () ⟨h', g, d, k', os⟩) :
    wpAny (model C.prog C.w) A (setAttr a (Str.ofString n) w) Q' E' ⟨h, g, d, k, os⟩ := by
  refine foldg fun G0 fin0 => ?_
  obtain ⟨σ', r, q⟩ := q
  refine fin0 ?_
  cases r with
  | mk r c fs _ _ hr hl =>
    refine ra.ref_e ?_
    refine foldg fun G0 fin0 => ?_
    obtain ⟨dd, es, m, h2, hd, h3, I⟩ := inst_at S hr
    obtain ⟨f1, f2, f3⟩ := F.attr c n (List.contains_iff_mem.mp hn)
    obtain ⟨f4, f5, f6⟩ := F.dict c
    refine fin0 ?_
    have X : C.K.In h := F.inn.keeps S.bas
    refine set_plain (s := ⟨h, g, d, k, os⟩) X I f6 ?_
    refine osa_open (s := ⟨h, g, d, k + 1, os⟩) X I f5 f3 fun b => ?_
    refine foldg fun G0 fin0 => ?_
    obtain ⟨cd, hc, hd'⟩ := any_some f4
    refine fin0 ?_
    have hx := I.at_
    have ln := h3.length
    have up : Obj.putName (Str.ofString n) (PyData.keyHash C.w.params (Str.ofString n)) (.str (Str.ofString n) (k + 1)) w (dictOf es m) =
        dictOf (putL (Str.ofString n) (PyData.keyHash C.w.params (Str.ofString n)) (.str (Str.ofString n) (k + 1)) w es) (putN (Str.ofString n) es m) := putName_dict ..
    have G : (h.update dd (Obj.putName (Str.ofString n) (PyData.keyHash C.w.params (Str.ofString n)) (.str (Str.ofString n) (k + 1)) w)).get? dd =
        some (dictOf (putL (Str.ofString n) (PyData.keyHash C.w.params (Str.ofString n)) (.str (Str.ofString n) (k + 1)) w es) (putN (Str.ofString n) es m)) := by
      rw [← up]; exact Heap.get?_update_self _ h2 (by rw [up]; rfl)
    refine wpAny_bind (wpAny_pure (wpAny_bind (wpAny_bind (wpAny_loadPart hx (wpAny_bind ((looks_clsIn X hc).here ?_))))))
    rw [hd']
    refine wpAny_pure (a := some dd) (wpAny_bind (wpAny_pure (wpAny_bind ?_)))
    unfold nsSet
    refine wpAny_bind (wpAny_bind (wpAny_askSetting (wpAny_pure (wpAny_bind (wpAny_mkText (wpAny_bind (wpAny_loadPart h2 ?_)))))))
    have cf : aRefKeyMayBeTheName (Str.ofString n) es.toArray = false := by
      rw [aRefKeyMayBeTheName_at]
      have : es.toArray.any (fun x => x.refKey) = false := by
        rw [← Array.any_toList, List.any_eq_false]
        intro e he
        refine foldg fun G0 fin0 => ?_
        obtain ⟨x, hx, _⟩ := h3.keys e (by simpa using he)
        obtain ⟨t, ht⟩ := Value.isStrOf_shape (show Value.isStrOf x e.key = true from hx)
        refine fin0 ?_
        simp [DictEntry.refKey, ht]
      rw [this, Bool.and_false]
    dsimp only
    rw [cf]
    refine wpAny_updatePart h2 ?_
    refine wpAny_bind (wpAny_lookBehind G (pastItsLine_dict (by have := putL_length (Str.ofString n) (PyData.keyHash C.w.params (Str.ofString n)) (.str (Str.ofString n) (k + 1)) w es; rw [List.size_toArray, sizeLine_eq]; lia)) ?_)
    refine wpAny_pure ?_
    refine hQ (σ.set r (.inst c (putF fs n v))) _ _ ?_ q
    exact S.updInst hr hd (fun x ob hx e => (Heap.get?_update_ne _ _ _ _ hx).trans e) G (h3.put rw')
end
end Mine
end
section
namespace Mine
section
variable {C : Cx} {base : Heap} {A : Around} {z fr : Fz} {σ : Store} {h : Heap} {g : Array GenState} {d : Drawn} {k : Tok} {os : OsState} {E' : Value → Shared → Prop}
theorem upd_ne {h : Heap} {a x : Addr} {f : Obj → Obj} {ob : Obj} (hx : x ≠ a) (e : h.get? x = some ob) : (h.update a f).get? x = some ob := (Heap.get?_update_ne _ _ _ _ hx).trans e
theorem setItem_list_exact {prog : Program} {w : World} {s : Shared} {l : Addr} {items : Array Value} {n : Nat} {i : Int} {t : Tok} {v : Value} {Q : Unit → Shared → Prop} (ho : s.heap.get? l = some { cls := .type "list", data := .seq items n })
    (h0 : 0 ≤ i) (hfit : i < 2 ^ 63) (hn : i < items.size) (hQ : Q () { s with heap := s.heap.update l (Obj.mapSeq (·.setIfInBounds i.toNat v)) }) :
    wpAny (model prog w) A (setItem (.ref l) (.int i t) v) Q E' s := by
  have hl : s.heap.IsList l items := ⟨_, ho, rfl, n, rfl⟩
  unfold setItem
  try with_reducible refine wpAny_holding ?_
  first | refine wpAny_bind (wpAny_pure ?_) | skip
  refine wpAny_bind (wpAny_sequenceKey hl.typeIs (by decide) ?_)
  refine wpAny_bind (wpAny_callSpecial?_slot (name := Str.ofString "__setitem__") hl.typeIs slot_list_setitem
    (wpAny_call_entry slot_list_setitem hl.typeIs entry_list_setitem ?_ (args_list_setitem _ _ _)))
  show wpAny _ _ (Builtin.List.listSubscript? (.int i t) >>= _) _ _ s
  refine wpAny_bind (wpAny_listSubscript_int (fitsIndex_of h0 hfit) ?_)
  clear hfit
  obtain ⟨j, rfl⟩ := Int.eq_ofNat_of_zero_le h0
  have hj : j < items.size := by lia
  have hx' : items[j]? = some items[j] := Array.getElem?_eq_getElem hj
  refine wpAny_bind (wpAny_bind (wpAny_seqItemAt ho rfl (wpAny_pure ?_)))
  refine rwg hx' ?_
  refine wpAny_bind (wpAny_setSeqItemAt ho rfl ?_)
  first
    | exact wpAny_bind (wpAny_pure (wpAny_pure ⟨.none, rfl, wpAny_pure hQ⟩))
    | exact wpAny_pure ⟨.none, rfl, wpAny_pure hQ⟩
theorem KR.put {n : String} {v : V} {w : Value} (rv : VR C z v w) {fs : List (String × V)} : ∀ {kvs : List (Str × Value)}, KR C z fs kvs → KR C z (fs ++ [(n, v)]) (kvs ++ [(Str.ofString n, w)]) := by
  induction fs with
  | nil => intro _ h; rw [show _ = [] from h]; exact ⟨w, [], rfl, rv, rfl⟩
  | cons p r ih => intro _ h; obtain ⟨val, es', q, h1, h2⟩ := h; subst q; exact ⟨val, _, rfl, h1, ih h2⟩
theorem KR.del (n : String) {fs : List (String × V)} : ∀ {kvs : List (Str × Value)}, KR C z fs kvs → KR C z (delF fs n) (without kvs (Str.ofString n)) := by
  induction fs with
  | nil => intro _ h; rw [show _ = [] from h]; rfl
  | cons p r ih =>
    intro _ h
    obtain ⟨val, es', q, h1, h2⟩ := h
    subst q
    have ih := ih h2
    unfold delF without at ih ⊢
    refine rwg List.filter_cons ?_
    refine rwg List.filter_cons ?_
    by_cases e : p.1 = n
    · have e' : Str.ofString p.1 = Str.ofString n := congrArg _ e
      simpa [e, e'] using ih
    · have e' : Str.ofString p.1 ≠ Str.ofString n := fun q => e (ofString_inj q)
      refine rwg (if_pos (by simpa using e)) ?_
      refine rwg (if_pos (by simpa using e')) ?_
      exact ⟨val, _, rfl, h1, ih⟩
theorem stored_new {kvs : List (Str × Value)} {k : Str} {v : Value} (h : valueAt kvs k = none) : stored kvs k v = kvs ++ [(k, v)] := by
  have : kvs.any (fun kv => decide (kv.1 = k)) = false := by
    unfold valueAt at h
    simp only [Option.map_eq_none_iff, List.find?_eq_none] at h
    rw [List.any_eq_false]
    exact h
  unfold stored
  simp [this]
theorem op_setsub {va vi v : V} {a i w : Value} {Q : Store → Prop} {Q' : Unit → Shared → Prop} (S : Sim C base z fr σ h) (ra : VR C z va a) (ri : VR C z vi i) (rv : VR C z v w)
    (q : wSetSub σ va vi v fun σ => Q σ) (hQ : ∀ σ' h' k', Sim C base z fr σ' h' → Q σ' → Q' () ⟨h', g, d, k', os⟩) : wpAny (model C.prog C.w) A (setItem a i w) Q' E' ⟨h, g, d, k, os⟩ := by
  obtain ⟨σ', r, q⟩ := q
  cases r with
  | list r vs i _ hr hi =>
    refine ra.ref_e ?_
    refine ri.int_e fun t => ?_
    obtain ⟨h0, h1, h2⟩ := hi
    obtain ⟨ws, n, e1, hs⟩ := S.cell r _ hr
    have ln := hs.length
    simp only [Array.length_toList] at ln
    refine setItem_list_exact (s := ⟨h, g, d, k, os⟩) e1 h0 (by lia) (by lia) (hQ _ _ _ ?_ q)
    refine S.updCell hr (fun u_ u_ => nofun) (fun u_ u_ => nofun) (fun x ob hx e => upd_ne hx e) ⟨ws.setIfInBounds i.toNat w, n, ?_, ?_⟩
    · refine rwg (Heap.get?_update_self _ e1 rfl) ?_
      simp [Obj.mapSeq]
    · simpa using hs.set i.toNat rv
  | dict r es s _ hr hi =>
    refine ra.ref_e ?_
    refine ri.str_e fun t => ?_
    obtain ⟨h0, h1⟩ := hi
    obtain ⟨kvs, e1, e2⟩ := S.cell r _ hr
    have nf : valueAt kvs (Str.ofString s) = none := by
      refine foldg fun G0 fin0 => ?_
      rcases e2.value s with ⟨_, x⟩ | ⟨_, _, x, _⟩
      · refine fin0 ?_
        exact x
      · refine fin0 ?_
        rw [h1] at x; cases x
    refine wpAny_setItem_pairs (s := ⟨h, g, d, k, os⟩) (knd := PySem.strKind C.prog C.w) (strKind_is _ _ _ _) e1 (fun h' hm hs => hQ (σ.set r (.dict (es ++ [(s, v)]))) h' _ ?_ q) (by have := e2.length; rw [sizeLine_eq]; lia)
    refine S.updCell hr (fun u_ u_ => nofun) (fun u_ u_ => nofun) (fun x ob hx e => (hs.2 x hx).trans e) ⟨stored kvs (Str.ofString s) w, hm, ?_⟩
    refine rwg (stored_new nf) ?_
    exact e2.put rv
theorem op_delsub {va vi : V} {a i : Value} {Q : Store → Prop} {Q' : Unit → Shared → Prop} (S : Sim C base z fr σ h) (ra : VR C z va a) (ri : VR C z vi i)
    (q : wDelSub σ va vi fun σ => Q σ) (hQ : ∀ σ' h' k', Sim C base z fr σ' h' → Q σ' → Q' () ⟨h', g, d, k', os⟩) : wpAny (model C.prog C.w) A (delItem a i) Q' E' ⟨h, g, d, k, os⟩ := by
  obtain ⟨σ', r, q⟩ := q
  cases r with
  | dict r es s hr hi =>
    refine ra.ref_e ?_
    refine ri.str_e fun t => ?_
    obtain ⟨h0, h1⟩ := hi
    obtain ⟨kvs, e1, e2⟩ := S.cell r _ hr
    have there : (valueAt kvs (Str.ofString s)).isSome = true := by
      rcases e2.value s with ⟨x, _⟩ | ⟨_, _, x, y, _⟩
      · rw [x] at h0; cases h0
      · rw [y]; rfl
    refine wpAny_delItem_slot (s := ⟨h, g, d, k, os⟩) e1.typeIs (by decide) PySem.F.slot_dict_delitem (call_meetsIn PySem.F.slot_dict_delitem e1.typeIs PySem.F.entry_dict_delitem (PySem.F.args_dict_delitem_2 _ _)
      (meets_dict_delitem_pairs (PySem.strKind C.prog C.w) r (strKind_is _ _ _ _)) ⟨kvs, e1, by have := e2.length; rw [sizeLine_eq]; lia, there, fun h' hm hs => ?_⟩)
    refine hQ (σ.set r (.dict (delF es s))) h' _ ?_ q
    exact S.updCell hr (fun u_ u_ => nofun) (fun u_ u_ => nofun) (fun x ob hx e => (hs.2 x hx).trans e) ⟨_, hm, e2.del s⟩
end
end Mine
end
section
namespace Mine
section
variable {C : Cx} {base : Heap} {A : Around} {l : List Env} {z fr : Fz} {env : Env}
theorem ref_bin {x y : PySem.Expr} {op : Operator} {pos : Pos} {fa fb : Tr V} (ha : Ref C base l z fr A (eval x env) fa (VR C)) (hb : Ref C base l z fr A (eval y env) fb (VR C)) :
    Ref C base l z fr A (eval (.BinOp x op y pos) env) (cBin op fa fb) (VR C) := by
  intro z₁ σ h k g d os Q X hz q S hX Q' E' hQ hE
  rw [eval_BinOp]
  refine wpC_bind (ha z₁ σ h k g d os _ X hz q S hX _ _ (fun z₂ σ₂ va a h₂ k₂ hz₂ S₂ ra q₂ => ?_) hE)
  refine wpC_bind (wpC_holding (hb z₂ σ₂ h₂ k₂ g d os _ X (hz.trans hz₂) q₂ S₂ hX _ _ (fun z₃ σ₃ vb b h₃ k₃ hz₃ S₃ rb q₃ => ?_) (hE.mono hz₂)))
  exact wpC_bind (wpC_standAt (wpC_operate (wpC_of (op_bin S₃ (ra.mono hz₃.t) rb q₃ (hQ.mono (hz₂.trans hz₃))))))
theorem ref_neg {x : PySem.Expr} {pos : Pos} {fa : Tr V} (ha : Ref C base l z fr A (eval x env) fa (VR C)) :
    Ref C base l z fr A (eval (.UnaryOp .USub x pos) env) (cNeg fa) (VR C) := by
  intro z₁ σ h k g d os Q X hz q S hX Q' E' hQ hE
  refine wpC_bind (ha z₁ σ h k g d os _ X hz q S hX _ _ (fun z₂ σ₂ va a h₂ k₂ hz₂ S₂ ra q₂ => ?_) hE)
  exact wpC_bind (wpC_standAt (wpC_holding (wpC_of (op_neg S₂ ra q₂ (hQ.mono hz₂)))))
theorem ref_cmp {x y : PySem.Expr} {op : CmpOp} {pos : Pos} {fa fb : Tr V} (hs : (base.get? sysModules).isSome) (hu : A.units + 64 < cLine) (hm : behindInMarks op y = false)
    (ha : Ref C base l z fr A (eval x env) fa (VR C)) (hb : Ref C base l z fr A (eval y env) fb (VR C)) :
    Ref C base l z fr A (eval (.Compare x [op] [y] pos) env) (cBool (cCmpB op fa fb)) (VR C) := by
  intro z₁ σ h k g d os Q X hz q S hX Q' E' hQ hE
  rw [eval_Compare1, markedBehindIn_of_false hm]
  refine wpC_bind (ha z₁ σ h k g d os _ X hz q S hX _ _ (fun z₂ σ₂ va a h₂ k₂ hz₂ S₂ ra q₂ => ?_) hE)
  refine wpC_bind (wpC_holding (hb z₂ σ₂ h₂ k₂ g d os _ X (hz.trans hz₂) q₂ S₂ hX _ _ (fun z₃ σ₃ vb b h₃ k₃ hz₃ S₃ rb q₃ => ?_) (hE.mono hz₂)))
  refine wpC_bind (wpC_standAt (wpC_operate (wpC_of (op_cmp (Q := fun r σ => Q (.bool r) σ) S₃ hs hu (ra.mono hz₃.t) rb q₃ ?_))))
  intro z₄ σ₄ r v h₄ k₄ hz₄ S₄ rr q₄
  subst rr
  exact hQ z₄ σ₄ (.bool r) _ h₄ k₄ ((hz₂.trans hz₃).trans hz₄) S₄ (VR.bool r) q₄
theorem ref_cmpT {x y : PySem.Expr} {op : CmpOp} {pos : Pos} {fa fb : Tr V} {whole : Sem Value} (hs : (base.get? sysModules).isSome) (hu : A.units + 64 < cLine) (hm : behindInMarks op y = false)
    (ha : Ref C base l z fr A (eval x env) fa (VR C)) (hb : Ref C base l z fr A (eval y env) fb (VR C)) :
    Ref C base l z fr A (isTrue (.Compare x [op] [y] pos) env whole) (cCmpB op fa fb) (fun u_ b v => v = b) := by
  intro z₁ σ h k g d os Q X hz q S hX Q' E' hQ hE
  rw [isTrue_Compare1, markedBehindIn_of_false hm]
  refine wpC_bind (ha z₁ σ h k g d os _ X hz q S hX _ _ (fun z₂ σ₂ va a h₂ k₂ hz₂ S₂ ra q₂ => ?_) hE)
  refine wpC_bind (wpC_holding (hb z₂ σ₂ h₂ k₂ g d os _ X (hz.trans hz₂) q₂ S₂ hX _ _ (fun z₃ σ₃ vb b h₃ k₃ hz₃ S₃ rb q₃ => ?_) (hE.mono hz₂)))
  refine wpC_bind (wpC_standAt (wpC_bind (wpC_operate (wpC_of (op_cmp (Q := Q) S₃ hs hu (ra.mono hz₃.t) rb q₃ ?_)))))
  intro z₄ σ₄ r v h₄ k₄ hz₄ S₄ rr q₄
  subst rr
  exact wpC_holding (wpC_of (wpAny_truthy_bool (hQ z₄ σ₄ r _ h₄ k₄ ((hz₂.trans hz₃).trans hz₄) S₄ rfl q₄)))
theorem ref_cmp2T {x y w : PySem.Expr} {o1 o2 : CmpOp} {pos : Pos} {fa fb fc : Tr V} {whole : Sem Value} (hs : (base.get? sysModules).isSome) (hu : A.units + 64 < cLine) (hm : lastMarks [o1, o2] [y, w] = false)
    (hm2 : behindInMarks o2 w = false) (ha : Ref C base l z fr A (eval x env) fa (VR C)) (hb : Ref C base l z fr A (eval y env) fb (VR C)) (hc : Ref C base l z fr A (eval w env) fc (VR C)) :
    Ref C base l z fr A (isTrue (.Compare x [o1, o2] [y, w] pos) env whole) (cCmp2B o1 o2 fa fb fc) (fun u_ b v => v = b) := by
  intro z₁ σ h k g d os Q X hz q S hX Q' E' hQ hE
  show wpC _ _ (do testChain pos (← eval x env) [o1, o2] [eval y env, markedBehindIn o2 w (eval w env)]) _ _ _
  refine rwg (markedBehindIn_of_false hm2) ?_
  refine wpC_bind (ha z₁ σ h k g d os _ X hz q S hX _ _ (fun z₂ σ₂ va a h₂ k₂ hz₂ S₂ ra q₂ => ?_) hE)
  show wpC _ _ (do
    let rv ← holding [a] (eval y env)
    standAt pos
    let c ← holding [a, rv] (compareOp o1 a rv)
    release [a, rv] [c]
    if ← holding [c, rv] (truthy c) then testChain pos rv [o2] [eval w env] else pure false) _ _ _
  refine wpC_bind (wpC_holding (hb z₂ σ₂ h₂ k₂ g d os _ X (hz.trans hz₂) q₂ S₂ hX _ _ (fun z₃ σ₃ vb b h₃ k₃ hz₃ S₃ rb q₃ => ?_) (hE.mono hz₂)))
  refine wpC_bind (wpC_standAt (wpC_bind (wpC_holding (wpC_of (op_cmp (Q := fun r σ => match r with
    | true => fc σ (fun vc σ => wCmp σ o2 vb vc fun r => Q r σ) X
    | false => Q false σ) S₃ hs hu (ra.mono hz₃.t) rb q₃ ?_)))))
  intro z₄ σ₄ r v h₄ k₄ hz₄ S₄ rr q₄
  subst rr
  refine wpC_bind (wpC_release (wpC_bind (wpC_holding (wpC_of (wpAny_truthy_bool ?_)))))
  cases r with
  | false => exact wpC_pure (hQ z₄ σ₄ false _ h₄ k₄ ((hz₂.trans hz₃).trans hz₄) S₄ rfl q₄)
  | true =>
    show wpC _ _ (do
      let rw ← holding [b] (eval w env)
      standAt pos
      let c ← operate [b, rw] (compareOp o2 b rw)
      holding [c] (truthy c)) _ _ _
    have hz' := (hz₂.trans hz₃).trans hz₄
    refine wpC_bind (wpC_holding (hc z₄ σ₄ h₄ k₄ g d os _ X (hz.trans hz') q₄ S₄ hX _ _ (fun z₅ σ₅ vc c h₅ k₅ hz₅ S₅ rc q₅ => ?_) (hE.mono hz')))
    refine wpC_bind (wpC_standAt (wpC_bind (wpC_operate (wpC_of (op_cmp (Q := Q) S₅ hs hu (rb.mono (hz₄.trans hz₅).t) rc q₅ ?_)))))
    intro z₆ σ₆ r v h₆ k₆ hz₆ S₆ rr q₆
    subst rr
    exact wpC_holding (wpC_of (wpAny_truthy_bool (hQ z₆ σ₆ r _ h₆ k₆ ((hz'.trans hz₅).trans hz₆) S₆ rfl q₆)))
theorem ref_cmp2 {x y w : PySem.Expr} {o1 o2 : CmpOp} {pos : Pos} {fa fb fc : Tr V} (hs : (base.get? sysModules).isSome) (hu : A.units + 64 < cLine)
    (hm2 : behindInMarks o2 w = false) (ha : Ref C base l z fr A (eval x env) fa (VR C)) (hb : Ref C base l z fr A (eval y env) fb (VR C)) (hc : Ref C base l z fr A (eval w env) fc (VR C)) :
    Ref C base l z fr A (eval (.Compare x [o1, o2] [y, w] pos) env) (cBool (cCmp2B o1 o2 fa fb fc)) (VR C) := by
  intro z₁ σ h k g d os Q X hz q S hX Q' E' hQ hE
  show wpC _ _ (do compareChain pos (← eval x env) [o1, o2] [eval y env, markedBehindIn o2 w (eval w env)]) _ _ _
  refine rwg (markedBehindIn_of_false hm2) ?_
  refine wpC_bind (ha z₁ σ h k g d os _ X hz q S hX _ _ (fun z₂ σ₂ va a h₂ k₂ hz₂ S₂ ra q₂ => ?_) hE)
  show wpC _ _ (do
    let rv ← holding [a] (eval y env)
    standAt pos
    let c ← holding [a, rv] (compareOp o1 a rv)
    release [a, rv] [c]
    if ← holding [c, rv] (truthy c) then compareChain pos rv [o2] [eval w env] else pure c) _ _ _
  refine wpC_bind (wpC_holding (hb z₂ σ₂ h₂ k₂ g d os _ X (hz.trans hz₂) q₂ S₂ hX _ _ (fun z₃ σ₃ vb b h₃ k₃ hz₃ S₃ rb q₃ => ?_) (hE.mono hz₂)))
  refine wpC_bind (wpC_standAt (wpC_bind (wpC_holding (wpC_of (op_cmp (Q := fun r σ => match r with
    | true => fc σ (fun vc σ => wCmp σ o2 vb vc fun r => Q (.bool r) σ) X
    | false => Q (.bool false) σ) S₃ hs hu (ra.mono hz₃.t) rb q₃ ?_)))))
  intro z₄ σ₄ r v h₄ k₄ hz₄ S₄ rr q₄
  subst rr
  refine wpC_bind (wpC_release (wpC_bind (wpC_holding (wpC_of (wpAny_truthy_bool ?_)))))
  cases r with
  | false => exact wpC_pure (hQ z₄ σ₄ (.bool false) _ h₄ k₄ ((hz₂.trans hz₃).trans hz₄) S₄ (VR.bool _) q₄)
  | true =>
    show wpC _ _ (do
      let rw ← holding [b] (eval w env)
      standAt pos
      operate [b, rw] (compareOp o2 b rw)) _ _ _
    have hz' := (hz₂.trans hz₃).trans hz₄
    refine wpC_bind (wpC_holding (hc z₄ σ₄ h₄ k₄ g d os _ X (hz.trans hz') q₄ S₄ hX _ _ (fun z₅ σ₅ vc c h₅ k₅ hz₅ S₅ rc q₅ => ?_) (hE.mono hz')))
    refine wpC_bind (wpC_standAt (wpC_operate (wpC_of (op_cmp (Q := fun r σ => Q (.bool r) σ) S₅ hs hu (rb.mono (hz₄.trans hz₅).t) rc q₅ ?_))))
    intro z₆ σ₆ r v h₆ k₆ hz₆ S₆ rr q₆
    subst rr
    exact hQ z₆ σ₆ (.bool r) _ h₆ k₆ ((hz'.trans hz₅).trans hz₆) S₆ (VR.bool _) q₆
theorem ref_not {x : PySem.Expr} {pos : Pos} {fa : Tr Bool} {whole : Sem Value} (ha : Ref C base l z fr A (isTrue x env (eval x env)) fa (fun u_ b v => v = b)) :
    Ref C base l z fr A (isTrue (.UnaryOp .Not x pos) env whole) (cNot fa) (fun u_ b v => v = b) := by
  intro z₁ σ h k g d os Q X hz q S hX Q' E' hQ hE
  refine wpC_bind (ha z₁ σ h k g d os _ X hz q S hX _ _ (fun z₂ σ₂ b a h₂ k₂ hz₂ S₂ ra q₂ => ?_) hE)
  subst ra
  exact wpC_pure (hQ z₂ σ₂ (!a) (!a) h₂ k₂ hz₂ S₂ rfl q₂)
theorem ref_bop {x y : PySem.Expr} {op : BoolOp} {pos : Pos} {fa fb : Tr Bool} {whole : Sem Value} (ha : Ref C base l z fr A (isTrue x env (eval x env)) fa (fun u_ b v => v = b))
    (hb : Ref C base l z fr A (isTrue y env (eval y env)) fb (fun u_ b v => v = b)) : Ref C base l z fr A (isTrue (.BoolOp op [x, y] pos) env whole) (cBop op fa fb) (fun u_ b v => v = b) := by
  intro z₁ σ h k g d os Q X hz q S hX Q' E' hQ hE
  show wpC _ _ (do
    match op, ← isTrue x env (eval x env) with
    | .And, false => pure false
    | .Or, true => pure true
    | _, _ => allTrue op [y] env) _ _ _
  refine wpC_bind (ha z₁ σ h k g d os _ X hz q S hX _ _ (fun z₂ σ₂ b a h₂ k₂ hz₂ S₂ ra q₂ => ?_) hE)
  subst ra
  have two : ∀ (q₂ : fb σ₂ Q X), wpC (model C.prog C.w) A (allTrue op [y] env) Q' E' ⟨h₂, g, d, k₂, os⟩ := fun q₂ => by
    show wpC _ _ (do
      match op, ← isTrue y env (eval y env) with
      | .And, false => pure false
      | .Or, true => pure true
      | _, _ => allTrue op [] env) _ _ _
    refine wpC_bind (hb z₂ σ₂ h₂ k₂ g d os _ X (hz.trans hz₂) q₂ S₂ hX _ _ (fun z₃ σ₃ b a h₃ k₃ hz₃ S₃ ra q₃ => ?_) (hE.mono hz₂))
    subst ra
    have fin := hQ z₃ σ₃ a a h₃ k₃ (hz₂.trans hz₃) S₃ rfl q₃
    cases op <;> cases a <;> exact wpC_pure fin
  cases op <;> cases a
  · exact wpC_pure (hQ z₂ σ₂ false false h₂ k₂ hz₂ S₂ rfl q₂)
  · exact two q₂
  · exact two q₂
  · exact wpC_pure (hQ z₂ σ₂ true true h₂ k₂ hz₂ S₂ rfl q₂)
theorem ref_ite {t x y : PySem.Expr} {pos : Pos} {ft : Tr Bool} {fa fb : Tr V} (ht : Ref C base l z fr A (isTrue t env (eval t env)) ft (fun u_ b v => v = b))
    (ha : Ref C base l z fr A (eval x env) fa (VR C)) (hb : Ref C base l z fr A (eval y env) fb (VR C)) : Ref C base l z fr A (eval (.IfExp t x y pos) env) (cIte ft fa fb) (VR C) := by
  intro z₁ σ h k g d os Q X hz q S hX Q' E' hQ hE
  refine wpC_bind (ht z₁ σ h k g d os _ X hz q S hX _ _ (fun z₂ σ₂ b a h₂ k₂ hz₂ S₂ ra q₂ => ?_) hE)
  subst ra
  cases a with
  | true => exact ha z₂ σ₂ h₂ k₂ g d os Q X (hz.trans hz₂) q₂ S₂ hX Q' E' (hQ.mono hz₂) (hE.mono hz₂)
  | false => exact hb z₂ σ₂ h₂ k₂ g d os Q X (hz.trans hz₂) q₂ S₂ hX Q' E' (hQ.mono hz₂) (hE.mono hz₂)
end
end Mine
end
section
namespace Mine
structure EnvOk (env : Env) (ns : Names) : Prop where
  kind : env.scope.kind = .function
  names : env.scope.names = ns
  glob : env.globals = mainGlobals
  bui : env.builtins = builtinsNs
section
variable {C : Cx} {base : Heap} {A : Around} {l : List Env} {z z' fr : Fz} {env : Env} {ns : Names} {mg mb : Str → Option Value} {ρ : Loc} {vis : Vis}
theorem EnvR.mono (r : EnvR C z fr env ρ vis) (hz : Zle z z') : EnvR C z' fr env ρ vis := fun p hp v hv => by
  obtain ⟨val, h1, h2⟩ := r p hp v hv
  refine ⟨val, ?_, h2.mono hz.t⟩
  refine foldg fun G0 fin0 => ?_
  rcases h1 with h1 | ⟨h1, c, o, h3, h4, h5⟩
  · refine fin0 ?_
    exact .inl h1
  · refine fin0 ?_
    exact .inr ⟨h1, c, o, h3, hz _ _ h4, h5⟩
theorem fr_ns {σ : Store} {h : Heap} (S : Sim C base z fr σ h) {L : Addr} {o : Obj} {es : Array DictEntry} {n : Nat} (hL : fr L = some o) (hd : o.data = .dict es n) (hk : StrKeys es) : h.Ns L (nsFind es) := by
  obtain ⟨⟨sl, e⟩, _, _⟩ := S.frs L o hL
  exact ⟨_, es, n, e, hd, hk, fun u_ => rfl⟩
theorem load_holds {σ : Store} {h : Heap} (S : Sim C base z fr σ h) {x : Str} {val : Value} (ok : EnvOk env ns) (H : Holds z fr env x val) {Q : Value → Shared → Prop} {E' : Value → Shared → Prop} {g : Array GenState} {d : Drawn} {k : Tok} {os : OsState}
    (q : Q val ⟨h, g, d, k, os⟩) : wpAny (model C.prog C.w) A (loadName env x) Q E' ⟨h, g, d, k, os⟩ := by
  refine foldg fun G0 fin0 => ?_
  rcases H with ⟨hk, o, es, n, h1, h2, h3, h4⟩ | ⟨hk, c, o, h1, h2, h3⟩
  · refine fin0 ?_
    exact wpAny_loadName_local ok.kind hk (fr_ns S h1 h2 h3) h4 q
  · refine fin0 ?_
    exact wpAny_loadName_cell ok.kind hk h1 ⟨o, (S.fz c o h2).1, h3⟩ q
theorem ref_x {i : Nat} {y : Str} {pos : Pos} (ok : EnvOk env ns) (er : EnvR C z fr env ρ vis) (hv : (vis.any fun p => p.1 == i && p.2 == y) = true) (hy : (y == ("__debug__" : Str)) = false) :
    Ref C base l z fr A (eval (.Name y pos) env) (cX i ρ) (VR C) := by
  intro z₁ σ h k g d os Q X hz q S hX Q' E' hQ hE
  refine foldg fun G0 fin0 => ?_
  obtain ⟨v, e, q⟩ := locP_inv q
  obtain ⟨p, hp, e2⟩ := List.any_eq_true.mp hv
  simp only [Bool.and_eq_true, beq_iff_eq] at e2
  obtain ⟨e2, e3⟩ := e2
  obtain ⟨val, h1, h2⟩ := er.mono hz p hp v (by rw [e2]; exact e)
  refine fin0 ?_
  rw [e3] at h1
  refine rwg (eval_Name _ _ _ hy) ?_
  exact wpC_bind (wpC_standAt (wpC_of (load_holds S ok h1 (hQ z₁ σ v val h k (Zle.refl _) S h2 q))))
theorem ref_g {n : String} {y : Str} {pos : Pos} (F : Facts C base mg mb) (ok : EnvOk env ns) (hn : gnames.contains n = true) (hy : Str.ofString n = y) (hk : (ns.lookup y == some .globalImplicit) = true) (hd : (y == ("__debug__" : Str)) = false) :
    Ref C base l z fr A (eval (.Name y pos) env) (fun σ Q u_ => Q (gval n) σ) (VR C) := by
  intro z₁ σ h k g d os Q X hz q S hX Q' E' hQ hE
  subst hy
  obtain ⟨val, h1, h2⟩ := F.glob n (List.contains_iff_mem.mp hn)
  have kind : env.kindOf (Str.ofString n) = some .globalImplicit := by
    unfold Env.kindOf
    refine rwg ok.names ?_
    exact beq_iff_eq.mp hk
  have keep : ∀ {a m}, base.Ns a m → h.Ns a m := fun hn => hn.keeps S.bas
  have fin := hQ z₁ σ (gval n) val h k (Zle.refl _) S (h2 _) q
  refine wpC_of (PySem.Calls.Name_function_global ok.kind kind ?_ hd)
  rcases h1 with h1 | ⟨h1, h3⟩
  · exact PySem.Calls.loadGlobal_global (by rw [ok.glob]; exact keep F.g) h1 fin
  · exact PySem.Calls.loadGlobal_builtin (by rw [ok.glob]; exact keep F.g) h1 (by rw [ok.bui]; exact keep F.b) h3 fin
theorem ref_c {v : V} {c : Const} {u : Nat} {pos : Pos} (hc : constR v c = true) : Ref C base l z fr A (eval (.Constant c u pos) env) (fun σ Q u_ => Q v σ) (VR C) := by
  intro z₁ σ h k g d os Q X hz q S hX Q' E' hQ hE
  have fin : ∀ val k', VR C z₁ v val → Q' val ⟨h, g, d, k', os⟩ := fun val k' r => hQ z₁ σ v val h k' (Zle.refl _) S r q
  refine wpC_of ?_
  cases v with
  | none => obtain rfl : c = _ := beq_iff_eq.mp hc; exact wpAny_Constant_none (fin _ _ VR.none)
  | bool => obtain rfl : c = _ := beq_iff_eq.mp hc; exact wpAny_Constant_bool (fin _ _ (VR.bool _))
  | int => obtain rfl : c = _ := beq_iff_eq.mp hc; exact wpAny_Constant_int (fin _ _ (VR.int _ _))
  | str => obtain rfl : c = _ := beq_iff_eq.mp hc; exact PySem.Calls.Constant_str (fin _ _ (VR.str _ _))
  | bytes => obtain rfl : c = _ := beq_iff_eq.mp hc; exact Constant_bytes (fin _ _ (VR.bytes _ _))
  | _ => exact (Bool.false_ne_true hc).elim
end
end Mine
end
section
namespace Mine
theorem base_whole {o : PySem.Expr} {attr : Str} {env : Env} {whole : Sem Value} (h : notSuper o = true) : attributeBase o attr env whole = whole := by
  cases o with
  | Call f as ks p =>
    cases f with
    | Name => cases as <;> cases ks <;> first | rfl | cases h
    | _ => rfl
  | _ => rfl
theorem starEach_cons {x : PySem.Expr} {xs : List PySem.Expr} {env : Env} (h : notStar x = true) : starEach (x :: xs) env = (false, eval x env) :: starEach xs env := by
  cases x <;> first | rfl | cases h
section
variable {C : Cx} {base : Heap} {A : Around} {l : List Env} {z z' fr : Fz} {env : Env} {ns : Names} {mg mb : Str → Option Value} {ρ : Loc} {vis : Vis}
theorem ref_attr (F : Facts C base mg mb) {x : PySem.Expr} {n : String} {m : Str} {pos : Pos} {fa : Tr V} (hm : Str.ofString n = m) (hn : attrNames.contains n = true) (hs : notSuper x = true)
    (ha : Ref C base l z fr A (eval x env) fa (VR C)) : Ref C base l z fr A (eval (.Attribute x m pos) env) (cAttr fa n) (VR C) := by
  intro z₁ σ h k g d os Q X hz q S hX Q' E' hQ hE
  subst hm
  show wpC _ _ (do
    let o ← attributeBase x (Str.ofString n) env (eval x env)
    standAt pos.atName
    let r ← holding [o] (getAttr o (Str.ofString n) true)
    letTemporaryGo x o r
    pure r) _ _ _
  refine rwg (base_whole hs) ?_
  refine wpC_bind (ha z₁ σ h k g d os _ X hz q S hX _ _ (fun z₂ σ₂ va a h₂ k₂ hz₂ S₂ ra q₂ => ?_) hE)
  refine wpC_bind (wpC_standAt (wpC_bind (wpC_holding (wpC_of (op_attr F hn S₂ ra q₂ ?_)))))
  intro z₃ σ₃ v r h₃ k₃ hz₃ S₃ rr q₃
  exact wpC_bind (wpC_of (wpAny_letTemporaryGo (wpC_pure (hQ z₃ σ₃ v r h₃ k₃ (hz₂.trans hz₃) S₃ rr q₃))))
theorem ref_sub {x y : PySem.Expr} {pos : Pos} {fa fi : Tr V} (hn : notSlice y = true)
    (ha : Ref C base l z fr A (eval x env) fa (VR C)) (hb : Ref C base l z fr A (eval y env) fi (VR C)) : Ref C base l z fr A (eval (.Subscript x y pos) env) (cSub fa fi) (VR C) := by
  intro z₁ σ h k g d os Q X hz q S hX Q' E' hQ hE
  rw [eval_Subscript]
  refine wpC_bind (ha z₁ σ h k g d os _ X hz q S hX _ _ (fun z₂ σ₂ va a h₂ k₂ hz₂ S₂ ra q₂ => ?_) hE)
  refine wpC_bind (wpC_holding (hb z₂ σ₂ h₂ k₂ g d os _ X (hz.trans hz₂) q₂ S₂ hX _ _ (fun z₃ σ₃ vb b h₃ k₃ hz₃ S₃ rb q₃ => ?_) (hE.mono hz₂)))
  refine wpC_bind (wpC_standAt ?_)
  exact wpC_of (op_sub (value := x) (slice := y) hn S₃ (ra.mono hz₃.t) rb q₃ (hQ.mono (hz₂.trans hz₃)))
noncomputable def RefEs (C : Cx) (base : Heap) (l : List Env) (z fr : Fz) (A : Around) (xs : List PySem.Expr) (env : Env) (tr : Tr (List V)) : Prop :=
  ∀ pos, Ref C base l z fr A (spliced (backTo pos (starEach xs env))) tr (VRs C)
theorem ref_nil : RefEs C base l z fr A [] env (fun σ Q u_ => Q [] σ) := by
  intro pos z₁ σ h k g d os Q X hz q S hX Q' E' hQ hE
  exact wpC_pure (hQ z₁ σ [] [] h k (Zle.refl _) S VRs.nil q)
theorem ref_cons {x : PySem.Expr} {xs : List PySem.Expr} {fe : Tr V} {fes : Tr (List V)} (hn : notStar x = true) (ha : Ref C base l z fr A (eval x env) fe (VR C)) (hb : RefEs C base l z fr A xs env fes) :
    RefEs C base l z fr A (x :: xs) env (fun σ Q X => fe σ (fun v σ => fes σ (fun vs σ => Q (v :: vs) σ) X) X) := by
  intro pos z₁ σ h k g d os Q X hz q S hX Q' E' hQ hE
  rw [starEach_cons hn]
  show wpC _ _ (spliced ((false, eval x env) :: backTo pos (starEach xs env))) _ _ _
  rw [spliced]
  refine wpC_bind (ha z₁ σ h k g d os _ X hz q S hX _ _ (fun z₂ σ₂ va a h₂ k₂ hz₂ S₂ ra q₂ => ?_) hE)
  refine wpC_no ?_
  refine wpC_bind (wpC_pure (wpC_bind (wpC_holding ?_)))
  refine hb pos z₂ σ₂ h₂ k₂ g d os _ X (hz.trans hz₂) q₂ S₂ hX _ _ (fun z₃ σ₃ vs ws h₃ k₃ hz₃ S₃ rb q₃ => ?_) (hE.mono hz₂)
  exact wpC_pure (hQ z₃ σ₃ (va :: vs) (a :: ws) h₃ k₃ (hz₂.trans hz₃) S₃ (VRs.cons (ra.mono hz₃.t) rb) q₃)
theorem ref_tup {xs : List PySem.Expr} {u pos} {fes : Tr (List V)} (hb : RefEs C base l z fr A xs env fes) : Ref C base l z fr A (eval (.Tuple xs u pos) env) (cTup fes) (VR C) := by
  intro z₁ σ h k g d os Q X hz q S hX Q' E' hQ hE
  refine wpC_bind (wpC_standAt (wpC_bind ?_))
  refine hb pos z₁ σ h k g d os _ X hz q S hX _ _ (fun z₃ σ₃ vs ws h₃ k₃ hz₃ S₃ rb q₃ => ?_) hE
  have ln := rb.length
  refine wpC_of (wpAny_newTuple ?_ (by rw [sizeLine_eq]; lia))
  refine foldg fun G0 fin0 => ?_
  obtain ⟨z', zl, S', r'⟩ := S₃.newTuple rb
  refine fin0 ?_
  exact hQ z' σ₃ _ _ _ _ (hz₃.trans zl) S' r' q₃.2
theorem ref_list {xs : List PySem.Expr} {pos} {fes : Tr (List V)} {live : Bool} (hb : RefEs C base l z fr A xs env fes) : Ref C base l z fr A (eval (.List xs pos) env) (cList live fes) (VR C) := by
  intro z₁ σ h k g d os Q X hz q S hX Q' E' hQ hE
  refine wpC_bind (wpC_standAt (wpC_bind ?_))
  refine hb pos z₁ σ h k g d os _ X hz q S hX _ _ (fun z₃ σ₃ vs ws h₃ k₃ hz₃ S₃ rb q₃ => ?_) hE
  have ln := rb.length
  obtain ⟨q₃, q₄⟩ := q₃
  refine wpC_of (wpAny_newList ?_ (by rw [sizeLine_eq]; lia))
  cases live with
  | false =>
    refine foldg fun G0 fin0 => ?_
    obtain ⟨z', zl, S', r'⟩ := S₃.newList rb
    refine fin0 ?_
    exact hQ z' σ₃ _ _ _ _ (hz₃.trans zl) S' r' q₄
  | true =>
    refine foldg fun G0 fin0 => ?_
    obtain ⟨_, _, _, ns, _⟩ := S₃.new_off (get_size h₃)
    refine fin0 ?_
    refine hQ z₃ (σ₃.set h₃.objs.size (.list vs)) (.ref h₃.objs.size) _ _ _ hz₃ ?_ (VR.ref _) (q₄ _ ns)
    exact S₃.newCell (get_size h₃) (fun u_ u_ e => Heap.get?_push_of_some _ e) (fun u_ u_ => nofun) ⟨_, _, Heap.get?_push_size _ rfl, by simpa using rb⟩
theorem ref_dict0 (hs : (base.get? sysModules).isSome) {pos} : Ref C base l z fr A (eval (.Dict [] [] pos) env) (fun σ Q u_ => wNew σ (.dict []) Q) (VR C) := by
  intro z₁ σ h k g d os Q X hz q S hX Q' E' hQ hE
  refine wpC_of (wpAny_Dict_empty ?_)
  refine foldg fun G0 fin0 => ?_
  obtain ⟨_, _, _, ns, _⟩ := S.new_off (get_size h)
  refine fin0 ?_
  refine hQ z₁ (σ.set h.objs.size (.dict [])) (.ref h.objs.size) _ _ _ (Zle.refl _) ?_ (VR.ref _) (q _ ns)
  exact S.newCell (get_size h) (fun u_ u_ e => Heap.get?_push_of_some _ e) (fun u_ u_ => nofun) ⟨[], Heap.DictOf.new h, rfl⟩
end
end Mine
end
section
namespace Mine
open PySem.Builtin
theorem owner_ba : Manifest.owners.lookup (String.ofList ['y', 'a', 'r', 'r', 'a', 'e', 't', 'y', 'b'].reverse) = some Manifest.sig_bytearray := by kernel_rfl
theorem slot_ba_getitem : Slot "bytearray" "__getitem__" "bytearray.__getitem__" :=
  .of (owner := "bytearray") (n := "__getitem__") (by rw [typeLookup_type, builtinLookup_eq_fast]; kernel_rfl) (by decide +kernel) (by decide +kernel) (by decide +kernel)
    (by first | exact .inl (by decide +kernel) | exact .inr (by decide +kernel)) (by rw [isSubtype_type]; kernel_rfl)
theorem entry_ba_getitem : entryFor table "bytearray.__getitem__" = some Builtin.«bytearray.__getitem__» := entryFor_of_tree (by kernel_rfl)
theorem args_ba_getitem (a b : Value) : argsOk "bytearray.__getitem__" ⟨[a, b], []⟩ := by
  unfold argsOk; rw [signature?_of (id := "bytearray.__getitem__") (n := ['_', '_', 'm', 'e', 't', 'i', 't', 'e', 'g', '_', '_']) (o := ['y', 'a', 'r', 'r', 'a', 'e', 't', 'y', 'b']) (by kernel_rfl) owner_ba]; kernel_rfl
section
variable {M : Model} {A : Around} {E : Value → Shared → Prop} {s : Shared}
theorem parts_of {a : Addr} {l u : Value} {lo hi : Option Int} (hl : IsPart l lo) (hu : IsPart u hi) (hs : s.heap.IsSliceOf a l u .none) {Q : Value × Value × Value → Shared → Prop}
    (h : Q (rawPart lo, rawPart hi, .none) s) : wpAny M A (Bytes.sliceParts (.ref a)) Q E s := by
  obtain ⟨o, ho, hc, hd⟩ := hs
  unfold Bytes.sliceParts
  refine wpAny_bind (wpAny_field (x := .none) ho hd rfl ?_)
  kby_none
  refine wpAny_ite (KBy.ite_no (show ¬ ((Value.none == rawInt 0) = true) from Bool.false_ne_true) ?_)
  refine wpAny_bind (wpAny_field (x := l) ho hd rfl ?_)
  cases hl <;> cases hu <;> (first
    | (kby_none; (refine wpAny_bind (wpAny_field (x := .none) ho hd rfl ?_)); kby_none)
    | (kby_none; (refine wpAny_bind (wpAny_field (x := .int _ _) ho hd rfl ?_)); kby_int)
    | (kby_int; (refine wpAny_bind (wpAny_field (x := .none) ho hd rfl ?_)); kby_none)
    | (kby_int; (refine wpAny_bind (wpAny_field (x := .int _ _) ho hd rfl ?_)); kby_int)) <;> exact wpAny_pure h
theorem no_sub {a : Addr} {l u : Value} (hs : s.heap.IsSliceOf a l u .none) {Q : Option Int → Shared → Prop} (h : Q none s) : wpAny M A (Bytes.subscript? (.ref a)) Q E s := by
  refine foldg fun G0 fin0 => ?_
  obtain ⟨o, ho, hc, hd⟩ := hs
  refine fin0 ?_
  have hT : s.TypeIs (.ref a) "slice" := ⟨o, ho, hc⟩
  unfold Bytes.subscript?
  exact wpAny_bind (wpAny_specialOf hT slice_no_index (wpAny_pure h))
theorem pay_ba {a : Addr} {b : Array UInt8} {n : Nat} {o : Obj} (ho : s.heap.get? a = some o) (hd : o.data = .bytearray b n) {Q : Array UInt8 → Shared → Prop} (h : Q b s) : wpAny M A (Bytes.payload (.ref a)) Q E s := by
  unfold Bytes.payload Bytes.payload?
  refine wpAny_bind (wpAny_bind (wpAny_load ho ?_))
  refine rwg hd ?_
  exact wpAny_pure (wpAny_pure h)
end
theorem meets_ba_getitem (b : Array UInt8) (r a : Addr) {l u : Value} {lo hi : Option Int} (hl : IsPart l lo) (hu : IsPart u hi) :
    Meets («bytearray.__getitem__» ⟨[.ref r, .ref a], []⟩) (fun u_ R s => s.heap.get? r = some { cls := .type "bytearray", data := .bytearray b 0 } ∧ s.heap.IsSliceOf a l u .none ∧ b.size ≤ sizeLine ∧
      R (.ok (.ret (.ref s.heap.objs.size))) { s with heap := s.heap.push { cls := .type "bytearray", data := .bytearray (KBy.picked b lo hi) } }) := by
  refine .of_wp fun prog w A R s hS => ?_
  refine foldg fun G0 fin0 => ?_
  obtain ⟨hr, hs, hsz, h⟩ := hS
  obtain ⟨o, ho, hc, hd⟩ := id hs
  refine fin0 ?_
  have hT : s.TypeIs (.ref a) "slice" := ⟨o, ho, hc⟩
  show wpAny _ _ (Bytes.subscript? (.ref a) >>= fun r => _) _ _ s
  refine wpAny_bind (no_sub hs ?_)
  refine wpAny_bind (wpAny_typeOf hT ?_)
  refine wpAny_bind (parts_of hl hu hs ?_)
  refine wpAny_bind (pay_ba hr rfl ?_)
  show wpAny _ _ (sliceIndices (rawPart lo) (rawPart hi) (rawPart none) b.size >>= fun r => _) _ _ s
  refine rwg (sliceIndices_raw lo hi none b.size (fun e => nomatch e)) ?_
  refine wpAny_bind (wpAny_pure ?_)
  refine wpAny_bind (wpAny_newObj_type ?_ ?_)
  · exact wpAny_pure ⟨_, rfl, h⟩
  · show (KBy.picked b lo hi).size ≤ sizeLine
    exact Nat.le_trans (KBc.size_picked_le b lo hi) hsz
end Mine
end
section
namespace Mine
section
variable {C : Cx} {base : Heap} {A : Around} {l : List Env} {z z' fr : Fz} {env : Env} {σ : Store} {h : Heap} {g : Array GenState} {d : Drawn} {k : Tok} {os : OsState} {E' : Value → Shared → Prop}
theorem picked_sl (b : List UInt8) (lo hi : Option Int) : KBy.picked b.toArray lo hi = (sl b lo hi).toArray := by
  rw [KBc.picked_eq]; simp [sl]
theorem slice_sl (b : Array Value) (lo hi : Option Int) : slicePick b lo hi none = (sl b.toList lo hi).toArray := by
  rw [slicePick_plain]; simp [sl]
theorem sl_len {α : Type} (xs : List α) (lo hi : Option Int) : (sl xs lo hi).length ≤ xs.length := by
  unfold sl; rw [List.length_take, List.length_drop]; exact Nat.le_trans (Nat.min_le_right ..) (Nat.sub_le ..)
theorem VRs.sl {vs : List V} {ws : List Value} (r : VRs C z vs ws) (lo hi : Option Int) : VRs C z (Mine.sl vs lo hi) (Mine.sl ws lo hi) := by
  unfold Mine.sl
  refine rwg r.length ?_
  exact (r.drop _).take _
theorem op_slice {value : PySem.Expr} {lo hi : Option PySem.Expr} {p : Pos} {va : V} {a vl vu : Value} {ol oh : Option Int} {Q : V → Store → Prop} {Q' : Value → Shared → Prop}
    (S : Sim C base z fr σ h) (ra : VR C z va a) (pl : IsPart vl ol) (pu : IsPart vu oh) (q : wSlice σ va ol oh Q) (hQ : PostR C base z fr g d os (VR C) Q Q') :
    wpAny (model C.prog C.w) A (subscriptTail value (.Slice lo hi none p) a (.ref h.objs.size)) Q' E' ⟨h.push { cls := .type "slice", data := .fields #[vl, vu, .none] }, g, d, k, os⟩ := by
  have kp : ∀ b o, h.get? b = some o → (h.push { cls := .type "slice", data := .fields #[vl, vu, .none] }).get? b = some o := fun u_ u_ e => Heap.get?_push_of_some _ e
  have S' := S.keep kp
  have isl : (h.push { cls := .type "slice", data := .fields #[vl, vu, .none] }).IsSliceOf h.objs.size vl vu .none := Heap.IsSliceOf.new _ _ _ _
  obtain ⟨o, r, q⟩ := q
  cases r with
  | bytes b hb =>
    refine ra.bytes_e fun t => ?_
    refine tail_any (s := ⟨_, g, d, k, os⟩) (typeIs_bytes _ _ _) FB.slot_bytes_getitem.lookup (ops := [.ref h.objs.size, .bytes b.toArray t]) ?_ rfl
    refine getItem_meets (typeIs_bytes _ _ _) (by decide) FB.slot_bytes_getitem FB.entry_bytes_getitem (FB.args_bytes_getitem_2 _ _) (KBc.meets_slice2 b.toArray t _ pl pu) ⟨isl, ?_, fun t' k' => ?_⟩
    · refine Nat.le_trans (KBc.size_picked_le _ _ _) ?_
      rw [sizeLine_eq]; simp; exact Nat.le_trans (by assumption) (Nat.le_of_ble_eq_true rfl)
    · rw [picked_sl]
      exact hQ z σ _ _ _ _ (Zle.refl _) S' (VR.bytes _ _) q
  | list vs hv =>
    obtain ⟨la, ws, rfl, hl, hs⟩ := ra.isList S'
    have ln := hs.length
    simp only [Array.length_toList] at ln
    refine tail_any (s := ⟨_, g, d, k, os⟩) hl.typeIs slot_list_getitem.lookup (ops := [.ref h.objs.size, .ref la]) ?_ rfl
    refine wpAny_getItem_list_slice (s := ⟨_, g, d, k, os⟩) hl isl pl pu .none (fun e => nomatch e) ?_ (by rw [sizeLine_eq]; lia)
    rw [slice_sl]
    obtain ⟨z', zl, S'', r'⟩ := S'.newList (hs.sl ol oh)
    exact hQ z' σ _ _ _ _ zl S'' r' q
  | ba r b hr hz =>
    refine ra.ref_e ?_
    have hc : h.get? r = some { cls := .type "bytearray", data := .bytearray b.toArray 0 } := S.cell r _ hr
    have hc' := kp _ _ hc
    refine tail_any (s := ⟨_, g, d, k, os⟩) (T := "bytearray") ⟨_, hc', rfl⟩ slot_ba_getitem.lookup (ops := [.ref h.objs.size, .ref r]) ?_ rfl
    refine getItem_meets (T := "bytearray") ⟨_, hc', rfl⟩ (by decide) slot_ba_getitem entry_ba_getitem (args_ba_getitem _ _) (meets_ba_getitem b.toArray r _ pl pu) ⟨hc', isl, ?_, ?_⟩
    · rw [sizeLine_eq]; simp; exact Nat.le_trans (by assumption) (Nat.le_of_ble_eq_true rfl)
    · rw [picked_sl]
      obtain ⟨_, _, _, ns, _⟩ := S'.new_off (get_size _)
      refine hQ z _ _ _ _ _ (Zle.refl _) ?_ (VR.ref _) (q _ ns)
      exact S'.newCell (get_size _) (fun u_ u_ e => Heap.get?_push_of_some _ e) (fun u_ u_ => nofun) (Heap.get?_push_size _ rfl)
noncomputable def RefO (C : Cx) (base : Heap) (l : List Env) (z fr : Fz) (A : Around) (x : Option PySem.Expr) (env : Env) (tr : Tr (Option Int)) : Prop :=
  Ref C base l z fr A (valueOrNone (evalOpt x env)) tr fun u_ o v => IsPart v o
theorem ref_none : RefO C base l z fr A none env (fun σ Q u_ => Q none σ) := by
  intro z₁ σ h k g d os Q X hz q S hX Q' E' hQ hE
  exact wpC_pure (hQ z₁ σ none .none h k (Zle.refl _) S .none q)
theorem ref_some {x : PySem.Expr} {f : Tr V} (ha : Ref C base l z fr A (eval x env) f (VR C)) : RefO C base l z fr A (some x) env (cOpt f) := by
  intro z₁ σ h k g d os Q X hz q S hX Q' E' hQ hE
  refine ha z₁ σ h k g d os _ X hz q S hX _ _ (fun z₂ σ₂ va a h₂ k₂ hz₂ S₂ ra q₂ => ?_) hE
  obtain ⟨i, rfl, q₃⟩ := wInt_inv q₂
  refine ra.int_e fun t => ?_
  exact hQ z₂ σ₂ _ _ h₂ k₂ hz₂ S₂ (.int _ _) q₃
theorem ref_slice {x : PySem.Expr} {lo hi : Option PySem.Expr} {p pos : Pos} {fa : Tr V} {fl fh : Tr (Option Int)} (ha : Ref C base l z fr A (eval x env) fa (VR C)) (hl : RefO C base l z fr A lo env fl) (hh : RefO C base l z fr A hi env fh) :
    Ref C base l z fr A (eval (.Subscript x (.Slice lo hi none p) pos) env) (cSlice fa fl fh) (VR C) := by
  intro z₁ σ h k g d os Q X hz q S hX Q' E' hQ hE
  rw [eval_Subscript]
  refine wpC_bind (ha z₁ σ h k g d os _ X hz q S hX _ _ (fun z₂ σ₂ va a h₂ k₂ hz₂ S₂ ra q₂ => ?_) hE)
  show wpC _ _ (holding [a] (do
    let l ← valueOrNone (evalOpt lo env)
    let u ← holding [l] (valueOrNone (evalOpt hi env))
    let s ← holding [l, u] (pure Value.none)
    newFields "slice" [l, u, s]) >>= _) _ _ _
  refine wpC_bind (wpC_holding (wpC_bind ?_))
  refine hl z₂ σ₂ h₂ k₂ g d os _ X (hz.trans hz₂) q₂ S₂ hX _ _ (fun z₃ σ₃ ol vl h₃ k₃ hz₃ S₃ pl q₃ => ?_) (hE.mono hz₂)
  refine wpC_bind (wpC_holding ?_)
  refine hh z₃ σ₃ h₃ k₃ g d os _ X ((hz.trans hz₂).trans hz₃) q₃ S₃ hX _ _ (fun z₄ σ₄ oh vu h₄ k₄ hz₄ S₄ pu q₄ => ?_) (hE.mono (hz₂.trans hz₃))
  refine wpC_bind (wpC_holding (wpC_pure ?_))
  refine wpC_of (wpAny_newObj_type ?_ (Nat.le_trans (show 3 ≤ 1000000 by decide) (by rw [sizeLine_eq]; decide)))
  refine wpC_bind (wpC_standAt ?_)
  exact wpC_of (op_slice (value := x) S₄ (ra.mono (hz₃.trans hz₄).t) pl pu q₄ (hQ.mono ((hz₂.trans hz₃).trans hz₄)))
end
end Mine
end
section
namespace Mine
section
variable {prog : Program} {w : World} {A : Around} {s : Shared} {R : Result → Shared → Prop} {E : Value → Shared → Prop}
abbrev ends (prog : Program) (w : World) (A : Around) (R : Result → Shared → Prop) (fin : Fin) (s' : Shared) : Prop :=
  match fin with | .done f => R (.ok f) s' | .again c' => c'.quiet = true ∧ codeC (model prog w) A c' R s'
theorem ends_of {fin : Fin} {s' : Shared} (h : match fin with | .done f => R (.ok f) s' | .again c' => c'.quiet = true ∧ codeAny (model prog w) A c' R s') : ends prog w A R fin s' := by
  cases fin with
  | done f => exact h
  | again c => exact ⟨h.1, codeC_of h.2⟩
theorem codeC_func {body : List Stmt} {env : Env}
    (h : wpC (model prog w) (A.deeper env) (execs body env) (fun f s' => R (.ok (.ret (match f with | .ret v => v | _ => .none))) s')
      (fun e s' => wpC (model prog w) (A.deeper env) (leaving env e) (fun u_ s'' => R (.error e) s'') (fun e' s'' => R (.error e') s'') s') s) :
    codeC (model prog w) A (.func body env) R s := by
  refine codeC_of_tree trivial ?_
  refine wpC_bind (wpC_point (wpC_bind (wpC_onRaise (wpC_mono h (fun f s' h' => ?_) fun u_ u_ h' => h'))))
  cases f <;> exact wpC_pure h'
theorem codeC_call_function {a : Addr} {args : Args} {o : Obj} {fd : FuncData} {body : List Stmt} (hroom : A.depth < recursionLimit) (ho : s.heap.get? a = some o)
    (hd' : o.data = .func fd) (hco : fd.scope.isCoroutine = false) (hgen : fd.scope.isGenerator = false) (hbody : fd.body = .stmts body) (hcd : s.heap.CodeRec fd.code fd.qualname)
    (h : wpAny (model prog w) A.in1 (bindArgs fd args) (fun binds s₁ =>
      wpAny (model prog w) A.in1 (newFunctionEnv fd.scope fd.globals fd.closure binds (fd.qualname ++ ".<locals>.") (some a) fd.code none fd.builtins)
        (fun env s₂ => s₂.heap.NoLimit ∧ codeC (model prog w) A (.func body env) R s₂) (fun e s' => R (.error e) s') s₁) (fun e s' => R (.error e) s') s) :
    codeC (model prog w) A (.call (.ref a) args) R s := by
  refine codeC_of_tree trivial (wpC_of ?_)
  show wpAny _ A.in1 (callAny (.ref a) args) _ _ s
  refine wpAny_bind (wpAny_load ho ?_)
  refine foldg fun G0 fin0 => ?_
  obtain ⟨c, oc, vs, tq, hc, hoc, hdc, hq⟩ := hcd
  refine fin0 ?_
  simp only [hd', callFunction, hco, hgen, hbody, hc]
  rw [hc] at h
  refine wpAny_bind (m := field (.ref c) 1) (wpAny_field hoc hdc hq (wpAny_bind (wpAny_pure ?_)))
  exact wpAny_bind (wpAny_mono h (fun binds s₁ h₁ => wpAny_bind (wpAny_mono h₁ (fun env s₂ h₂ => wpAny_bind (wpAny_enterFrame h₂.1 hroom
    (wpAny_pure (And.intro rfl h₂.2)))) fun u_ u_ h' => h')) fun u_ u_ h' => h')
theorem codeC_builtin {id : String} {args : Args} {b : Builtin} (hok : badIds.contains id = false) (hb : entryFor table id = some b)
    (h : wpC (model prog w) (A.under (.builtin id args)) (b args) (ends prog w A R) (fun e s' => R (.error e) s') s) : codeC (model prog w) A (.builtin id args) R s := by
  refine codeC_of_tree hok ?_
  show wpC _ _ (match entryFor table id with | some b => b args | none => unsupported ((withoutEnding? id "#data").getD id)) _ _ s
  rw [hb]; exact h
theorem codeC_call_builtin {id : String} {args : Args} {b : Builtin} (hok : badIds.contains id = false) (hq : (Code.builtin id args).quiet = true) (hb : entryFor table id = some b)
    (h : wpAny (model prog w) A.in1 (checkBuiltinCall id args) (fun u_ s₁ => wpC (model prog w) (A.under (.builtin id args)) (b args) (ends prog w A R) (fun e s' => R (.error e) s') s₁)
      (fun e s' => R (.error e) s') s) : codeC (model prog w) A (.call (.builtin id) args) R s := by
  refine codeC_of_tree trivial (wpC_of ?_)
  exact wpAny_bind (wpAny_mono h (fun u_ s₁ h₁ => wpAny_pure (And.intro hq (codeC_builtin hok hb h₁))) fun u_ u_ h' => h')
theorem plain_all {args : List (Bool × Sem Value)} (hp : args.any (·.1) = false) {f : Value} {Q : Args → Shared → Prop} (h : wpC (model prog w) A (spliced args) (fun vs s' => Q ⟨vs, []⟩ s') E s) :
    wpC (model prog w) A (evalArgs f true args []) Q E s := by
  have fin : wpC (model prog w) A (spliced args >>= fun vs => holding (vs ++ []) (pure [] >>= fun ks => pure (([] : List Str).zip ks) >>= fun kw => pure (Args.mk vs kw))) Q E s :=
    wpC_bind (wpC_mono h (fun vs s₁ h₁ => wpC_holding (wpC_bind (wpC_pure (wpC_bind (wpC_pure (wpC_pure h₁)))))) fun u_ u_ x => x)
  unfold evalArgs
  cases args with
  | nil =>
    refine wpC_bind (wpC_mono h (fun vs s₁ h₁ => ?_) fun u_ u_ x => x)
    refine wpC_bind (wpC_pure (wpC_holding ?_))
    exact wpC_bind (wpC_pure (wpC_bind (wpC_pure (wpC_pure h₁))))
  | cons x r =>
    obtain ⟨b, x⟩ := x
    simp only [List.any_cons, Bool.or_eq_false_iff] at hp
    obtain ⟨rfl, hp⟩ := hp
    refine wpC_bind (wpC_mono h (fun vs s₁ h₁ => ?_) fun u_ u_ x => x)
    refine wpC_bind (wpC_pure (wpC_holding ?_))
    exact wpC_bind (wpC_pure (wpC_bind (wpC_pure (wpC_pure h₁))))
theorem callWith_C {f : Value} {pos : Pos} {first : List Value} {args : List (Bool × Sem Value)} {Q : Value → Shared → Prop} {P : Heap → Prop} (hp : args.any (·.1) = false)
    (hk : ∀ h, P h → ∃ k, (k = Keeper.frame ∨ k = Keeper.machine) ∧ Looks (model prog w) h (keeperOf f) k)
    (h : wpC (model prog w) A (spliced args) (fun vs s₁ => P s₁.heap ∧ wpC (model prog w) A (call f (first ++ vs) []) Q E s₁) E s) : wpC (model prog w) A (callWith pos f first args []) Q E s := by
  unfold callWith
  refine wpC_bind (wpC_holding (plain_all hp (wpC_mono h (fun vs s₁ h₁ => wpC_bind (wpC_standAt ?_)) fun u_ u_ x => x)))
  refine foldg fun G0 fin0 => ?_
  obtain ⟨k, hk', L⟩ := hk _ h₁.1
  refine fin0 ?_
  simp only [hp, List.any_nil, Bool.or_false]
  refine wpC_bind (wpC_of (L.here ?_))
  have tail : ∀ {t : Sem Value}, wpC (model prog w) A t Q E s₁ → wpC (model prog w) A (t >>= fun r => holding [r] point >>= fun u_ => pure r) Q E s₁ :=
    fun ht => wpC_bind (wpC_mono ht (fun r s₂ hr => wpC_bind (wpC_holding (wpC_point (wpC_pure hr)))) fun u_ u_ x => x)
  have marked (mk : Value) : wpC (model prog w) A (callMarked mk f (first ++ vs) []) Q E s₁ := by unfold callMarked; exact wpC_keep h₁.2
  rcases hk' with rfl | rfl
  · dsimp only
    split
    · exact tail h₁.2
    · exact tail (marked _)
  · exact tail h₁.2
end
end Mine
end
section
namespace Mine
section
variable {prog : Program} {w : World} {A : Around} {s : Shared} {R : Result → Shared → Prop} {E : Value → Shared → Prop} {C : Addr} {h : Heap} {g : Array GenState} {d : Drawn} {t : Nat} {os : OsState}
theorem make_C {rest : List Value} {init : Value} (Y : Makes (model prog w) h C) (hi : Looks (model prog w) h (typeLookup (.ref C) "__init__") (some init))
    (hb : ∀ self, Looks (model prog w) h (bindSpecial init self) (init, [self])) (hne : (some init != some (Value.builtin "object.__init__")) = true)
    (hq : codeC (model prog w) (A.under (.builtin "type.__call__" ⟨.ref C :: rest, []⟩)) (.call init ⟨.ref (h.objs.size + 1) :: rest, []⟩) (InitBack (h.objs.size + 1) R) ⟨(h.push emptyDict).push (instObj C h.objs.size), g, d, t, os⟩) :
    codeC (model prog w) A (.call (.ref C) ⟨rest, []⟩) R ⟨h, g, d, t, os⟩ := by
  have Y' := Y
  refine foldg fun G0 fin0 => ?_
  obtain ⟨⟨oc, od, cd, sl, hC, e1, e2, e4⟩, made, base, self, top, call, typ⟩ := Y
  refine fin0 ?_
  refine codeC_of_tree trivial ?_
  have step : wpC (model prog w) (A.under (.call (.ref C) ⟨rest, []⟩)) (callAny.viaDunder (.ref C) ⟨rest, []⟩) (ends prog w A R) (fun e s' => R (.error e) s') ⟨h, g, d, t, os⟩ := by
    unfold callAny.viaDunder
    refine wpC_then (call.at ?_)
    dsimp only
    rw [tc_bind]
    refine wpC_bind (wpC_pure (wpC_bind (wpC_pure ?_)))
    refine wpC_pure (a := Fin.again (.call (.builtin "type.__call__") ⟨.ref C :: rest, []⟩)) (And.intro rfl ?_)
    refine codeC_call_builtin (by decide +kernel) (Code.quiet_builtin _ (by decide +kernel)) PySem.entry_typeCall (check_slot tc_kind tc_split typ (tc_args _ _ _) ?_)
    unfold Builtin.«type.__call__»
    have hm : Looks (model prog w) h (mroOf (.ref C)) cd.mro := ((Looks.ld (part := none) hC).andThen .now).andThen .now
    refine wpC_then (hm.here ?_)
    simp only [e4, Bool.false_eq_true, if_false]
    refine wpC_then (made.here ?_)
    refine wpC_bind (wpC_pure ?_)
    refine wpC_bind (wpC_holding (wpC_of (wpAny_call (new_K Y' hi (.inl hne) ?_))))
    have k : ∀ b o, h.get? b = some o → ((h.push emptyDict).push (instObj C h.objs.size)).get? b = some o := fun b o e => Heap.get?_push_of_some _ (Heap.get?_push_of_some _ e)
    have hx : ((h.push emptyDict).push (instObj C h.objs.size)).get? (h.objs.size + 1) = some (instObj C h.objs.size) := by heap_get
    have t1 : Looks (model prog w) ((h.push emptyDict).push (instObj C h.objs.size)) (typeOf (.ref (h.objs.size + 1))) (.ref C) := (Looks.ld hx).andThen .now
    have s1 := self.keeps k
    have i1 := hi.keeps k
    have b1 := (hb (.ref (h.objs.size + 1))).keeps k
    have inst : Looks (model prog w) ((h.push emptyDict).push (instObj C h.objs.size)) (isInstance (.ref (h.objs.size + 1)) (.ref C)) true := t1.andThen s1
    have spec : Looks (model prog w) ((h.push emptyDict).push (instObj C h.objs.size)) (specialOf (.ref (h.objs.size + 1)) "__init__") (some init) := t1.andThen i1
    refine wpC_then (inst.here ?_)
    refine wpC_no ?_
    refine wpC_bind (wpC_holding ?_)
    unfold callSpecial?
    refine wpC_then (spec.here ?_)
    refine wpC_holding (wpC_then (b1.here ?_))
    refine wpC_bind (wpC_call (codeC_mono hq fun r s' z => ?_))
    rcases r with e | (v | _ | _ | _) <;> first | exact z | exact z.elim | skip
    obtain ⟨rfl, z⟩ := z
    exact wpC_pure (wpC_pure z)
  have ld : ∀ {k : Obj → Sem Fin}, wpC (model prog w) (A.under (.call (.ref C) ⟨rest, []⟩)) (k ⟨oc, od, .cls cd, sl⟩) (ends prog w A R) (fun e s' => R (.error e) s') ⟨h, g, d, t, os⟩ →
      wpC (model prog w) (A.under (.call (.ref C) ⟨rest, []⟩)) (load C >>= k) (ends prog w A R) (fun e s' => R (.error e) s') ⟨h, g, d, t, os⟩ := fun hk => wpC_then (wpAny_load hC hk)
  exact ld step
end
end Mine
end
section
namespace Mine
noncomputable def CSpec (C : Cx) (base : Heap) (l : List Env) (z fr : Fz) (A : Around) (c : Code) (tr : Tr V) : Prop :=
  ∀ z₁ σ h k g d os (Q : V → Store → Prop) (X : Store → Prop), Zle z z₁ → tr σ Q X → Sim C base z₁ fr σ h → (A.handled = none ∨ ∀ σ, ¬ X σ) →
    ∀ (R : Result → Shared → Prop), PostR C base z₁ fr g d os (VR C) Q (fun v s' => R (.ok (.ret v)) s') → PostX C base l z₁ fr g d os X (fun e s' => R (.error e) s') →
      codeC (model C.prog C.w) A c R ⟨h, g, d, k, os⟩
noncomputable def CallOk (C : Cx) (n : Nat) (call : CallT) : Prop :=
  ∀ base mg mb, Facts C base mg mb → ∀ A l z fr, AOk A l fr → Room A n → HOk base A → ∀ f args vals, VRs C z args vals → CSpec C base l z fr A (.call (.ref (C.fnA f)) ⟨vals, []⟩) (call f args)
section
variable {C : Cx} {base : Heap} {A : Around} {l : List Env} {z z' fr : Fz} {env : Env} {mg mb : Str → Option Value} {n : Nat} {call : CallT}
theorem CSpec.ref {f : Value} {vals : List Value} {tr : Tr V} (c : CSpec C base l z fr A (.call f ⟨vals, []⟩) tr) : Ref C base l z fr A (PySem.call f vals []) tr (VR C) := by
  intro z₁ σ h k g d os Q X hz q S hX Q' E' hQ hE
  exact wpC_call (c z₁ σ h k g d os Q X hz q S hX _ hQ hE)
theorem tc_weight (a : Addr) (rest : List Value) : (Code.builtin "type.__call__" ⟨.ref a :: rest, []⟩).weight = 1 ∧ (Code.builtin "type.__call__" ⟨.ref a :: rest, []⟩).cUnits = 1 ∧ (Code.builtin "type.__call__" ⟨.ref a :: rest, []⟩).envs = [] := by
  refine ⟨rfl, rfl, rfl⟩
theorem cspec_cls (F : Facts C base mg mb) (ok : CallOk C n call) (a : AOk A l fr) (r : Room A (n + 1)) (hh : HOk base A) {c : Cls} {args : List V} {vals : List Value} (rv : VRs C z args vals) :
    CSpec C base l z fr A (.call (.ref (C.clsA c)) ⟨vals, []⟩) (wApp call (.cls c) args) := by
  intro z₁ σ h k g d os Q X hz q S hX R hQ hE
  refine foldg fun G0 fin0 => ?_
  obtain ⟨f1, f2, f3⟩ := F.make c
  have XK : C.K.In h := F.inn.keeps S.bas
  obtain ⟨w1, w2, w3⟩ := tc_weight (C.clsA c) vals
  refine fin0 ?_
  have hf := (F.fn (initOf c)).1
  have ty : typeIn C.K (.ref (C.fnA (initOf c))) = some (.type "function") := by
    unfold isFn at hf
    exact beq_iff_eq.mp hf
  refine make_C (makes_of XK f1) (looks_findIn XK f2) (fun self => bind_fn XK self ty) (by simp) ?_
  have ns : σ (h.objs.size + 1) = none := by
    cases q : σ (h.objs.size + 1) with
    | none => rfl
    | some o => obtain ⟨ob, x⟩ := (S.cell _ _ q).there; exact absurd (Heap.lt_size x) (Nat.not_lt.mpr (Nat.le_succ _))
  have ha : h.get? (h.objs.size + 1) = none := by
    cases q : h.get? (h.objs.size + 1) with
    | none => rfl
    | some o => exact absurd (Heap.lt_size q) (Nat.not_lt.mpr (Nat.le_succ _))
  have S' : Sim C base z₁ fr (σ.set (h.objs.size + 1) (.inst c [])) ((h.push emptyDict).push (instObj (C.clsA c) h.objs.size)) :=
    S.newInst ha (get_size h) (Nat.succ_ne_self _) (fun x ob e => Heap.get?_push_of_some _ (Heap.get?_push_of_some _ e)) (by heap_get) (by
      refine Heap.get?_push_of_some _ ?_
      exact Heap.get?_push_size _ rfl)
  have A' : AOk (A.under (.builtin "type.__call__" ⟨.ref (C.clsA c) :: vals, []⟩)) l fr := ⟨by
    simp only [Around.under, w3]; exact a.frames, a.there⟩
  have R' : Room (A.under (.builtin "type.__call__" ⟨.ref (C.clsA c) :: vals, []⟩)) n := by
    obtain ⟨r1, r2⟩ := r
    constructor
    · show A.depth + _ + n + 10 < _
      rw [w1]; lia
    · show A.units + _ + 40 * n + 400 < _
      rw [w2]; lia
  have rv' : VRs C z₁ (.ref (h.objs.size + 1) :: args) (.ref (h.objs.size + 1) :: vals) := VRs.cons (VR.ref _) (rv.mono hz.t)
  refine ok base mg mb F _ l z₁ fr A' R' hh (initOf c) _ _ rv' z₁ _ _ _ g d os _ X (Zle.refl _) (q _ ns) S' hX _ ?_ ?_
  · intro z₂ σ₂ v val h₂ k₂ hz₂ S₂ rr q₂
    cases v with
    | none => have := rr.none_inv; subst this; exact ⟨rfl, hQ z₂ σ₂ _ _ h₂ k₂ hz₂ S₂ (VR.ref _) q₂⟩
    | _ => exact q₂.elim
  · intro z₂ σ₂ e h₂ k₂ hz₂ fl q₂
    exact hE z₂ σ₂ e h₂ k₂ hz₂ fl q₂
end
end Mine
end
section
namespace Mine
noncomputable def Callee (C : Cx) (base : Heap) (l : List Env) (z fr : Fz) (A : Around) (f : Value) (first : List Value) (tr : List V → Tr V) : Prop :=
  ∀ z₁ args vals σ h k g d os (Q : V → Store → Prop) (X : Store → Prop), Zle z z₁ → VRs C z₁ args vals → tr args σ Q X → Sim C base z₁ fr σ h → (A.handled = none ∨ ∀ σ, ¬ X σ) →
    (∃ k, (k = Keeper.frame ∨ k = Keeper.machine) ∧ Looks (model C.prog C.w) h (keeperOf f) k) ∧
    ∀ (Q' : Value → Shared → Prop) (E' : Value → Shared → Prop), PostR C base z₁ fr g d os (VR C) Q Q' → PostX C base l z₁ fr g d os X E' → wpC (model C.prog C.w) A (call f (first ++ vals) []) Q' E' ⟨h, g, d, k, os⟩
theorem REs_plain {ns : Names} {vis : Vis} {env : Env} {pos : Pos} {es : List E} : ∀ {xs : List PySem.Expr}, REs ns vis es xs = true → (backTo pos (starEach xs env)).any (·.1) = false := by
  induction es with
  | nil =>
    intro xs h
    cases xs with
    | nil => rfl
    | cons x xs => exact (Bool.false_ne_true h).elim
  | cons e es ih =>
    intro xs h
    cases xs with
    | nil => rfl
    | cons x xs =>
      obtain ⟨h, h3⟩ := Bool.and_eq_true_iff.mp h
      refine rwg (starEach_cons (Bool.and_eq_true_iff.mp h).1) ?_
      exact ih h3
theorem eval_call_plain {f : PySem.Expr} {args : List PySem.Expr} {pos : Pos} {env : Env} (h : notCallOfAttr f = true) :
    eval (.Call f args [] pos) env = (do callWith pos (← eval f env) [] (backTo pos (starEach args env)) []) := by
  cases f <;> first | rfl | cases h
section
variable {C : Cx} {base : Heap} {A : Around} {l : List Env} {z z' fr : Fz} {env : Env} {mg mb : Str → Option Value} {n : Nat} {call : CallT}
theorem Callee.with {f : Value} {first : List Value} {tr : List V → Tr V} (c : Callee C base l z fr A f first tr) {xs : List PySem.Expr} {pos : Pos} {fes : Tr (List V)} (hp : (backTo pos (starEach xs env)).any (·.1) = false)
    (hb : RefEs C base l z fr A xs env fes) : Ref C base l z fr A (callWith pos f first (backTo pos (starEach xs env)) []) (fun σ Q X => fes σ (fun vs σ => tr vs σ Q X) X) (VR C) := by
  intro z₁ σ h k g d os Q X hz q S hX Q' E' hQ hE
  refine callWith_C (P := fun h => ∃ k, (k = Keeper.frame ∨ k = Keeper.machine) ∧ Looks (model C.prog C.w) h (keeperOf f) k) hp (fun h x => x) ?_
  refine hb pos z₁ σ h k g d os _ X hz q S hX _ _ (fun z₂ σ₂ vs ws h₂ k₂ hz₂ S₂ rv q₂ => ?_) hE
  obtain ⟨c1, c2⟩ := c z₂ vs ws σ₂ h₂ k₂ g d os Q X (hz.trans hz₂) rv q₂ S₂ hX
  exact ⟨c1, c2 Q' E' (hQ.mono hz₂) (hE.mono hz₂)⟩
theorem ref_call {x : PySem.Expr} {xs : List PySem.Expr} {pos : Pos} {ff : Tr V} {fes : Tr (List V)} (hn : notCallOfAttr x = true) (hp : (backTo pos (starEach xs env)).any (·.1) = false)
    (hv : ∀ vf f z₁, Zle z z₁ → VR C z₁ vf f → Callee C base l z₁ fr A f [] (fun args => wApp call vf args))
    (ha : Ref C base l z fr A (eval x env) ff (VR C)) (hb : RefEs C base l z fr A xs env fes) : Ref C base l z fr A (eval (.Call x xs [] pos) env) (cCall call ff fes) (VR C) := by
  refine rwg (eval_call_plain hn) ?_
  refine Ref.bind (kt := fun vf σ Q X => fes σ (fun vs σ => wApp call vf vs σ Q X) X) ha fun z₁ vf f hz rf => ?_
  exact (hv vf f z₁ hz rf).with hp (fun pos => (hb pos).mono hz)
theorem keep_K {M : Model} {K : Frag} {f : Value} (hk : keepIn K f = true) {h : Heap} (X : K.In h) : ∃ k, (k = Keeper.frame ∨ k = Keeper.machine) ∧ Looks M h (keeperOf f) k := by
  obtain ⟨k, a, b⟩ := looks_keep (M := M) hk X
  exact ⟨k, a, b⟩
theorem callee_fn (F : Facts C base mg mb) (ok : CallOk C n call) (a : AOk A l fr) (r : Room A (n + 1)) (hh : HOk base A) (f : Fn) {o : List V} {first : List Value} (ro : VRs C z o first) :
    Callee C base l z fr A (.ref (C.fnA f)) first (fun args => call f (o ++ args)) := by
  intro z₁ args vals σ h k g d os Q X hz rv q S hX
  refine ⟨keep_K (F.fn f).2 (F.inn.keeps S.bas), fun Q' E' hQ hE => ?_⟩
  have r' : Room A n := ⟨by have := r.1; exact Nat.le_of_lt (by assumption), by have := r.2; lia⟩
  exact (ok base mg mb F A l z₁ fr a r' hh f _ _ ((ro.mono hz.t).append rv)).ref z₁ σ h k g d os Q X (Zle.refl _) q S hX Q' E' hQ hE
theorem callee_cls (F : Facts C base mg mb) (ok : CallOk C n call) (a : AOk A l fr) (r : Room A (n + 1)) (hh : HOk base A) (c : Cls) :
    Callee C base l z fr A (.ref (C.clsA c)) [] (fun args => wApp call (.cls c) args) := by
  intro z₁ args vals σ h k g d os Q X hz rv q S hX
  refine ⟨keep_K (F.make c).2.2 (F.inn.keeps S.bas), fun Q' E' hQ hE => ?_⟩
  exact (cspec_cls F ok a r hh rv).ref z₁ σ h k g d os Q X (Zle.refl _) q S hX Q' E' hQ hE
theorem Callee.no {f : Value} {first : List Value} {tr : List V → Tr V} (h : ∀ args σ Q X, ¬ tr args σ Q X) : Callee C base l z fr A f first tr := fun z₁ args vals σ hh k g d os Q X hz rv q => (h _ _ _ _ q).elim
theorem callee_app (F : Facts C base mg mb) (ok : CallOk C n call) (a : AOk A l fr) (r : Room A (n + 1)) (hh : HOk base A)
    (bi : ∀ b z₁, Zle z z₁ → Callee C base l z₁ fr A b [] (fun args σ Q u_ => wBi σ b args Q)) (vf : V) (f : Value) (z₁ : Fz) (hz : Zle z z₁) (rf : VR C z₁ vf f) :
    Callee C base l z₁ fr A f [] (fun args => wApp call vf args) := by
  cases vf with
  | fn g => have := rf.fn_inv; subst this; exact callee_fn F ok a r hh g VRs.nil
  | cls c => have := rf.cls_inv; subst this; exact callee_cls F ok a r hh c
  | bi b => have := rf.bi_inv; subst this; exact bi _ z₁ hz
  | _ => exact Callee.no fun u_ u_ u_ u_ x => x
end
end Mine
end
section
namespace Mine
section
variable {prog : Program} {w : World} {A : Around} {s : Shared} {E : Value → Shared → Prop}
theorem entry_C {T : String} {name : Str} {id : String} {b : Builtin} {self : Value} {rest : List Value} {Q : Value → Shared → Prop} (h : Slot T name id) (hbad : badIds.contains id = false) (hT : s.TypeIs self T)
    (hb : entryFor table id = some b) (ha : argsOk id ⟨self :: rest, []⟩)
    (hc : wpC (model prog w) A.in1 (b ⟨self :: rest, []⟩) (fun fin s' => ∃ v, fin = .done (.ret v) ∧ Q v s') E s) : wpC (model prog w) A (call (.builtin id) (self :: rest) []) Q E s := by
  refine wpC_call (codeC_call_builtin hbad (plainId_quiet h.plain _) hb (h.check _ _ _ _ _ _ _ _ hT ha ?_))
  rw [Around.under_plainId h.plain]
  refine wpC_mono hc (fun fin s' h' => ?_) fun u_ u_ h' => h'
  obtain ⟨v, rfl, hv⟩ := h'; exact hv
theorem special_C {T : String} {name : Str} {id : String} {b : Builtin} {self : Value} {rest : List Value} {Q : Option Value → Shared → Prop} (h : Slot T name id) (hbad : badIds.contains id = false) (hT : s.TypeIs self T)
    (hb : entryFor table id = some b) (ha : argsOk id ⟨self :: rest, []⟩)
    (hc : wpC (model prog w) A.in1 (b ⟨self :: rest, []⟩) (fun fin s' => ∃ v, fin = .done (.ret v) ∧ Q (some v) s') E s) : wpC (model prog w) A (callSpecial? self name rest) Q E s := by
  unfold callSpecial?
  refine wpC_then (wpAny_specialOf hT h.lookup ?_)
  refine wpC_holding ?_
  rw [h.bind]
  refine wpC_bind (wpC_pure (wpC_bind (entry_C h hbad hT hb ha ?_)))
  refine wpC_mono hc (fun fin s' h' => ?_) fun u_ u_ h' => h'
  obtain ⟨v, rfl, hv⟩ := h'
  exact ⟨v, rfl, wpC_pure hv⟩
theorem callType_C {T newId initId : String} {Bi : Builtin} {args : List Value} {Q Q₁ : Value → Shared → Prop} (ft : TypeCalled T newId initId) (hbad : badIds.contains initId = false)
    (hct : checkTypeCall T ⟨args, []⟩ = pure ()) (entryI : entryFor table initId = some Bi)
    (hnew : codeAny (model prog w) A.in1 (.call (.builtin newId) ⟨.type T :: args, []⟩) (wants Q₁ E) s)
    (hnext : ∀ obj s₁, Q₁ obj s₁ → s₁.TypeIs obj T ∧ argsOk initId ⟨obj :: args, []⟩ ∧
      wpC (model prog w) A.in1.in1 (Bi ⟨obj :: args, []⟩) (fun fin s' => fin = .done (.ret .none) ∧ Q obj s') E s₁) :
    wpC (model prog w) A (call (.type T) args []) Q E s := by
  refine foldg fun G0 fin0 => ?_
  obtain ⟨c, tl, hmro⟩ := ft.mro
  refine fin0 ?_
  have hmade := ft.made
  have hsub := ft.sub
  have h1 := ft.notType
  have h2 := ft.canCreate
  refine wpC_call (codeC_of_tree trivial ?_)
  show wpC _ _ (callAny (.type T) _) _ _ _
  refine wpC_pure ⟨Code.quiet_builtin _ (by decide +kernel), codeC_builtin (by decide +kernel) PySem.entry_typeCall ?_⟩
  refine rwg (Around.under_plain (weight_type_call_type T args []) rfl) ?_
  unfold Builtin.«type.__call__»
  simp only [h1, h2, Bool.false_eq_true, if_false]
  refine rwg hct ?_
  refine wpC_bind (wpC_pure ?_)
  refine rwg hmro ?_
  refine wpC_bind (wpC_pure ?_)
  refine wpC_no ?_
  refine rwg hmade ?_
  refine wpC_bind (wpC_pure (wpC_bind (wpC_pure ?_)))
  refine wpC_bind (wpC_holding (wpC_of (wpAny_call (codeAny_mono hnew fun r s₁ hr => ?_))))
  rcases r with e | (obj | _ | _ | _) <;> first | exact hr | exact hr.elim | skip
  refine foldg fun G0 fin0 => ?_
  obtain ⟨hT, hok, hsi⟩ := hnext _ _ hr
  refine fin0 ?_
  refine wpC_then (wpAny_isInstance hT hsub ?_)
  refine wpC_no ?_
  refine wpC_bind (wpC_holding (special_C ft.init hbad hT entryI hok ?_))
  refine wpC_mono hsi (fun fin s' h' => ?_) fun u_ u_ h' => h'
  obtain ⟨rfl, hv⟩ := h'
  exact ⟨_, rfl, wpC_pure hv⟩
end
end Mine
end
section
namespace Mine
theorem ba_mro : mroOf (.type "bytearray") = pure [.type "bytearray", .type "object"] := by rw [mroOf_type]; kernel_rfl
theorem ba_lookup_new : typeLookup (.type "bytearray") "__new__" = pure (some (.builtin "bytearray.__new__")) := by rw [typeLookup_type, builtinLookup_eq_fast]; kernel_rfl
theorem slot_ba_init : Slot "bytearray" "__init__" "bytearray.__init__" :=
  .of (owner := "bytearray") (n := "__init__") (by rw [typeLookup_type, builtinLookup_eq_fast]; kernel_rfl) (by decide +kernel) (by decide +kernel) (by decide +kernel)
    (by first | exact .inl (by decide +kernel) | exact .inr (by decide +kernel)) (by rw [isSubtype_type]; kernel_rfl)
theorem entry_ba_init : entryFor table "bytearray.__init__" = some Builtin.«bytearray.__init__» := entryFor_of_tree (by kernel_rfl)
theorem args_ba_init0 (a : Value) : argsOk "bytearray.__init__" ⟨[a], []⟩ := by unfold argsOk; kernel_rfl
theorem args_ba_init1 (a b : Value) : argsOk "bytearray.__init__" ⟨[a, b], []⟩ := by unfold argsOk; kernel_rfl
theorem ba_called : TypeCalled "bytearray" "bytearray.__new__" "bytearray.__init__" :=
  ⟨by decide +kernel, by decide +kernel, ⟨_, _, ba_mro⟩, madeBy_type ba_mro ba_lookup_new (by decide +kernel), by decide +kernel, by rw [isSubtype_type]; kernel_rfl, slot_ba_init⟩
theorem ba_typeCall0 : checkTypeCall "bytearray" ⟨[], []⟩ = pure () := by kernel_rfl
theorem ba_typeCall1 (a : Value) : checkTypeCall "bytearray" ⟨[a], []⟩ = pure () := by kernel_rfl
theorem ba_newCall0 : checkBuiltinCall "bytearray.__new__" ⟨[.type "bytearray"], []⟩ = pure () := by kernel_rfl
theorem ba_newCall1 (a : Value) : checkBuiltinCall "bytearray.__new__" ⟨[.type "bytearray", a], []⟩ = pure () := by kernel_rfl
theorem ba_entry_new : entryFor table "bytearray.__new__" = some Builtin.«list.__new__» :=
  entryFor_alias (id' := "list.__new__") (by kernel_rfl) (by first | rfl | decide +kernel) (by decide +kernel) (by kernel_rfl)
theorem ba_plain_new : plainId "bytearray.__new__" = true := by decide +kernel
set_option maxRecDepth 1000000 in
set_option maxHeartbeats 4000000 in
theorem ba_owner : ("bytearray.__new__".splitOn ".__new__").headD "" = "bytearray" := by simp +decide [String.splitOn, String.splitOnAux]
theorem ba_sub : isSubtype (.type "bytearray") (.type "bytearray") = pure true := by rw [isSubtype_type]; kernel_rfl
theorem ba_noindex : typeLookup (.type "bytes") "__index__" = pure none := by rw [typeLookup_type, builtinLookup_eq_fast]; kernel_rfl
theorem ba_rel : typeLookup (.type "bytearray") "__release_buffer__" = pure (some (.builtin "bytearray.__release_buffer__")) := by rw [typeLookup_type, builtinLookup_eq_fast]; kernel_rfl
theorem ba_buf : typeLookup (.type "bytearray") "__buffer__" = pure (some (.builtin "bytearray.__buffer__")) := by rw [typeLookup_type, builtinLookup_eq_fast]; kernel_rfl
section
variable {prog : Program} {w : World} {A : Around} {s : Shared} {E : Value → Shared → Prop}
abbrev baObj (b : Array UInt8) : Obj := { cls := .type "bytearray", data := .bytearray b 0 }
theorem code_ba_new (args : List Value) (hck : checkBuiltinCall "bytearray.__new__" ⟨.type "bytearray" :: args, []⟩ = pure ()) {Q₁ : Value → Shared → Prop}
    (h : Q₁ (.ref s.heap.objs.size) { s with heap := s.heap.push (baObj #[]) }) :
    codeAny (model prog w) A (.call (.builtin "bytearray.__new__") ⟨.type "bytearray" :: args, []⟩) (wants Q₁ E) s := by
  refine codeAny_of_tree ?_
  refine wpAny_bind (wpAny_of_eq hck (wpAny_pure ⟨plainId_quiet ba_plain_new _, codeAny_builtin_stack ba_entry_new rfl fun p st => ?_⟩))
  refine rwg (Around.under_plainId ba_plain_new _) ?_
  have hsub := ba_sub
  have hown := ba_owner
  obtain ⟨hp, g, d, tk, os⟩ := s
  simp only [hown]
  wp_walk
  exact h
theorem write_ba {a : Addr} {b : Array UInt8} {f : Array UInt8 → Array UInt8} {Q : Unit → Shared → Prop} (ho : s.heap.get? a = some (baObj b)) (hz : (f b).size ≤ sizeLine)
    (h : ∀ h', h'.get? a = some (baObj (f b)) → Heap.SameBut a s.heap h' → Q () { s with heap := h' }) : wpAny (model prog w) A (Builtin.Bytes.write (.ref a) f) Q E s := by
  show wpAny _ _ (updateBytearray a f) _ _ _
  unfold updateBytearray
  refine wpAny_bind (wpAny_load ho ?_)
  have hS : (s.heap.update a (Obj.mapBytearray f)).get? a = some (baObj (f b)) := Heap.get?_update_self (Obj.mapBytearray f) ho rfl
  refine wpAny_bind (wpAny_update ho ?_)
  refine wpAny_lookBehind hS ?_ (h _ hS (Heap.SameBut.update ..))
  show (if (f b).size > sizeLine then some "bytearray:memory" else none) = none
  rw [if_neg (Nat.not_lt.mpr hz)]
theorem exports0 {a : Addr} {b : Array UInt8} {Q : Nat → Shared → Prop} (ho : s.heap.get? a = some (baObj b)) (h : Q 0 s) : wpAny (model prog w) A (Builtin.Bytes.exportsOf (.ref a)) Q E s := by
  exact wpAny_bind (wpAny_load ho (wpAny_pure h))
theorem resize_C {a : Addr} {b : Array UInt8} {Q : Unit → Shared → Prop} (ho : s.heap.get? a = some (baObj b)) (h : Q () s) : wpC (model prog w) A (Builtin.Bytes.checkResize (.ref a)) Q E s := by
  unfold Builtin.Bytes.checkResize
  refine wpC_bind (wpC_bind (wpC_exported ?_))
  refine wpC_bind (wpC_of (exports0 ho ?_))
  exact wpC_pure (wpC_pure h)
theorem ba_release {a : Addr} {b : Array UInt8} {Q : Bool → Shared → Prop} (ho : s.heap.get? a = some (baObj b)) (h : Q false s) : wpAny (model prog w) A (Builtin.Bytes.ownRelease (.ref a)) Q E s := by
  have hT : s.TypeIs (.ref a) "bytearray" := ⟨_, ho, rfl⟩
  unfold Builtin.Bytes.ownRelease Builtin.Bytes.slotIsOwn
  refine wpAny_bind (wpAny_bind (wpAny_specialOf hT ba_rel ?_))
  have h1 : ("bytearray.__release_buffer__".endsWith ("." ++ "__release_buffer__")) = true := by decide +kernel
  have h2 : ("bytearray.__release_buffer__".dropRight ("__release_buffer__".length + 1)) = "bytearray" := by decide +kernel
  simp only [h1, h2, Bool.not_true, Bool.false_eq_true, if_false]
  exact wpAny_isInstance hT ba_sub (wpAny_pure h)
end
end Mine
end
section
namespace Mine
section
variable {prog : Program} {w : World} {A : Around} {s : Shared} {E : Value → Shared → Prop}
theorem bufferF (id : String) (b : Array UInt8) (t : Tok) : Builtin.Bytes.buffer? id (.bytes b t) true = pure (some b) := by
  unfold Builtin.Bytes.buffer?
  have h1 : specialOf (.bytes b t) (Str.ofString "__buffer__") = pure (some (.builtin "bytes.__buffer__")) := by
    unfold specialOf
    show (typeLookup (.type "bytes") _) = _
    rw [typeLookup_type, builtinLookup_eq_fast]; kernel_rfl
  refine rwg h1 ?_
  refine rwg KBy.own_buffer ?_
  refine rwg KBy.own_release ?_
  rfl
theorem init0_C {a : Addr} {b : Array UInt8} {Q : Fin → Shared → Prop} (ho : s.heap.get? a = some (baObj b))
    (h : ∀ h', h'.get? a = some (baObj #[]) → Heap.SameBut a s.heap h' → Q (.done (.ret .none)) { s with heap := h' }) : wpC (model prog w) A (Builtin.«bytearray.__init__» ⟨[.ref a], []⟩) Q E s := by
  unfold Builtin.«bytearray.__init__»
  refine wpC_then (ba_release ho (wpC_no (wpC_then (wpAny_of_eq (a := [none, none, none]) (by first | rfl | kernel_rfl) ?_))))
  refine wpC_then (wpAny_of_eq (a := ()) rfl (wpC_then (wpAny_of_eq (a := ()) rfl ?_)))
  refine wpC_bind (wpC_bind (wpC_exported ?_))
  refine wpC_bind (wpC_of (exports0 ho (wpC_pure ?_)))
  refine wpC_no (wpC_then (write_ba ho (Nat.zero_le _) fun h' h1 h2 => ?_))
  exact wpC_bind (wpC_pure (wpC_bind (wpC_pure (wpC_pure (h h' h1 h2)))))
theorem init1_C {a : Addr} {b c : Array UInt8} {t : Tok} {Q : Fin → Shared → Prop} (ho : s.heap.get? a = some (baObj b)) (hz : c.size ≤ sizeLine)
    (h : ∀ h', h'.get? a = some (baObj c) → Heap.SameBut a s.heap h' → Q (.done (.ret .none)) { s with heap := h' }) : wpC (model prog w) A (Builtin.«bytearray.__init__» ⟨[.ref a, .bytes c t], []⟩) Q E s := by
  unfold Builtin.«bytearray.__init__»
  refine wpC_then (ba_release ho (wpC_no (wpC_then (wpAny_of_eq (a := [some (.bytes c t), none, none]) (by first | rfl | kernel_rfl) ?_))))
  refine wpC_then (wpAny_of_eq (a := ()) rfl (wpC_then (wpAny_of_eq (a := ()) rfl ?_)))
  refine wpC_bind (wpC_bind (wpC_exported ?_))
  refine wpC_bind (wpC_of (exports0 ho (wpC_pure ?_)))
  refine wpC_no (wpC_then (write_ba ho (Nat.zero_le _) fun h' h1 h2 => ?_))
  refine wpC_then (wpAny_of_eq (a := none) rfl ?_)
  refine wpC_no (wpC_bind (wpC_no (wpC_no (wpC_pure ?_))))
  refine wpC_then (wpAny_of_eq (a := none) rfl ?_)
  refine wpC_no (wpC_then (wpAny_of_eq (bufferF _ _ _) ?_))
  refine wpC_bind (wpC_rule (wpC_then (write_ba h1 hz fun h'' h3 h4 => ?_)))
  exact wpC_pure (h h'' h3 ⟨h4.1.trans h2.1, fun x hx => (h4.2 x hx).trans (h2.2 x hx)⟩)
theorem sameBut_trans {h h' h'' : Heap} {a : Addr} (h2 : Heap.SameBut a h h') (h4 : Heap.SameBut a h' h'') : Heap.SameBut a h h'' := ⟨h4.1.trans h2.1, fun x hx => (h4.2 x hx).trans (h2.2 x hx)⟩
theorem make_ba0 {Q : Value → Shared → Prop} (h : ∀ a h', s.heap.get? a = none → h'.get? a = some (baObj #[]) → (∀ b o, s.heap.get? b = some o → h'.get? b = some o) → Q (.ref a) { s with heap := h' }) :
    wpC (model prog w) A (call (.type "bytearray") [] []) Q E s := by
  refine callType_C (Q₁ := fun obj s₁ => obj = .ref s.heap.objs.size ∧ s₁ = { s with heap := s.heap.push (baObj #[]) }) ba_called (by decide +kernel) ba_typeCall0 entry_ba_init (code_ba_new [] ba_newCall0 ⟨rfl, rfl⟩) fun obj s₁ h₁ => ?_
  obtain ⟨rfl, rfl⟩ := h₁
  have hS : (s.heap.push (baObj #[])).get? s.heap.objs.size = some (baObj #[]) := Heap.get?_push_size _ rfl
  refine ⟨⟨_, hS, rfl⟩, args_ba_init0 _, init0_C hS fun h' h1 h2 => ⟨rfl, h _ _ (get_size _) h1 fun b o e => (h2.2 b ?_).trans (Heap.get?_push_of_some _ e)⟩⟩
  exact Nat.ne_of_lt (Heap.lt_size e)
theorem make_ba1 {c : Array UInt8} {t : Tok} (hz : c.size ≤ sizeLine) {Q : Value → Shared → Prop} (h : ∀ a h', s.heap.get? a = none → h'.get? a = some (baObj c) → (∀ b o, s.heap.get? b = some o → h'.get? b = some o) → Q (.ref a) { s with heap := h' }) :
    wpC (model prog w) A (call (.type "bytearray") [.bytes c t] []) Q E s := by
  refine callType_C (Q₁ := fun obj s₁ => obj = .ref s.heap.objs.size ∧ s₁ = { s with heap := s.heap.push (baObj #[]) }) ba_called (by decide +kernel) (ba_typeCall1 _) entry_ba_init (code_ba_new [.bytes c t] (ba_newCall1 _) ⟨rfl, rfl⟩) fun obj s₁ h₁ => ?_
  obtain ⟨rfl, rfl⟩ := h₁
  have hS : (s.heap.push (baObj #[])).get? s.heap.objs.size = some (baObj #[]) := Heap.get?_push_size _ rfl
  refine ⟨⟨_, hS, rfl⟩, args_ba_init1 _ _, init1_C hS hz fun h' h1 h2 => ⟨rfl, h _ _ (get_size _) h1 fun b o e => (h2.2 b ?_).trans (Heap.get?_push_of_some _ e)⟩⟩
  exact Nat.ne_of_lt (Heap.lt_size e)
end
end Mine
end
section
namespace Mine
theorem take_eq (id : String) (b : Array UInt8) (t : Tok) : Builtin.Bytes.takeBufferQuiet? id (.bytes b t) 0 = pure (some (b, none)) := by
  unfold Builtin.Bytes.takeBufferQuiet? Builtin.Bytes.takeBuffer?
  refine rwg (KBy.special_eq KBy.look_buffer) ?_
  refine rwg KBy.own_buffer ?_
  have : ((0 : Int) == Builtin.Bytes.fullReadOnly) = false := by decide
  refine rwg this ?_
  refine rwg KBy.buffer_eq ?_
  rfl
theorem bytes_noint : typeLookup (.type "bytes") "__int__" = pure none := by rw [typeLookup_type, builtinLookup_eq_fast]; kernel_rfl
theorem bytes_nofloat : typeLookup (.type "bytes") "__float__" = pure none := by rw [typeLookup_type, builtinLookup_eq_fast]; kernel_rfl
theorem bytes_notba : isSubtype (.type "bytes") (.type "bytearray") = pure false := by rw [isSubtype_type]; kernel_rfl
theorem bytes_notcomplex : isSubtype (.type "bytes") (.type "complex") = pure false := by rw [isSubtype_type]; kernel_rfl
theorem slot_ba_len : Slot "bytearray" "__len__" "bytearray.__len__" :=
  .of (owner := "bytearray") (n := "__len__") (by rw [typeLookup_type, builtinLookup_eq_fast]; kernel_rfl) (by decide +kernel) (by decide +kernel) (by decide +kernel)
    (by first | exact .inl (by decide +kernel) | exact .inr (by decide +kernel)) (by rw [isSubtype_type]; kernel_rfl)
theorem entry_ba_len : entryFor table "bytearray.__len__" = some Builtin.«bytearray.__len__» := entryFor_of_tree (by kernel_rfl)
theorem args_ba_len (a : Value) : argsOk "bytearray.__len__" ⟨[a], []⟩ := by unfold argsOk; kernel_rfl
theorem slot_ba_setitem : Slot "bytearray" "__setitem__" "bytearray.__setitem__" :=
  .of (owner := "bytearray") (n := "__setitem__") (by rw [typeLookup_type, builtinLookup_eq_fast]; kernel_rfl) (by decide +kernel) (by decide +kernel) (by decide +kernel)
    (by first | exact .inl (by decide +kernel) | exact .inr (by decide +kernel)) (by rw [isSubtype_type]; kernel_rfl)
theorem entry_ba_setitem : entryFor table "bytearray.__setitem__" = some Builtin.«bytearray.__setitem__» := entryFor_of_tree (by kernel_rfl)
theorem args_ba_setitem (a b c : Value) : argsOk "bytearray.__setitem__" ⟨[a, b, c], []⟩ := by unfold argsOk; kernel_rfl
theorem slot_ba_delitem : Slot "bytearray" "__delitem__" "bytearray.__delitem__" :=
  .of (owner := "bytearray") (n := "__delitem__") (by rw [typeLookup_type, builtinLookup_eq_fast]; kernel_rfl) (by decide +kernel) (by decide +kernel) (by decide +kernel)
    (by first | exact .inl (by decide +kernel) | exact .inr (by decide +kernel)) (by rw [isSubtype_type]; kernel_rfl)
theorem entry_ba_delitem : entryFor table "bytearray.__delitem__" = some Builtin.«bytearray.__delitem__» := entryFor_of_tree (by kernel_rfl)
theorem args_ba_delitem (a b : Value) : argsOk "bytearray.__delitem__" ⟨[a, b], []⟩ := by unfold argsOk; kernel_rfl
theorem slot_ba_extend : Slot "bytearray" "extend" "bytearray.extend" :=
  .of (owner := "bytearray") (n := "extend") (by rw [typeLookup_type, builtinLookup_eq_fast]; kernel_rfl) (by decide +kernel) (by decide +kernel) (by decide +kernel)
    (by first | exact .inl (by decide +kernel) | exact .inr (by decide +kernel)) (by rw [isSubtype_type]; kernel_rfl)
theorem entry_ba_extend : entryFor table "bytearray.extend" = some Builtin.«bytearray.extend» := entryFor_of_tree (by kernel_rfl)
theorem args_ba_extend (a b : Value) : argsOk "bytearray.extend" ⟨[a, b], []⟩ := by unfold argsOk; kernel_rfl
theorem type_ba_extend : typeOf (.builtin "bytearray.extend") = pure (.type "method_descriptor") := by show builtinType _ = _; rw [builtinType_eq_fast]; kernel_rfl
theorem plainAttrs_ba : PlainAttrs "bytearray" :=
  ⟨⟨"bytearray.__getattribute__", by rw [typeLookup_type, builtinLookup_eq_fast]; kernel_rfl, by decide +kernel⟩, by rw [typeLookup_type, builtinLookup_eq_fast]; kernel_rfl⟩
section
variable {prog : Program} {w : World} {A : Around} {s : Shared} {E : Value → Shared → Prop}
theorem extend_C {a : Addr} {b c : Array UInt8} {t : Tok} {Q : Value → Shared → Prop} (ho : s.heap.get? a = some (baObj b)) (hz : b.size + c.size ≤ sizeLine)
    (h : ∀ h', h'.get? a = some (baObj (b ++ c)) → Heap.SameBut a s.heap h' → Q .none { s with heap := h' }) : wpC (model prog w) A (call (.builtin "bytearray.extend") [.ref a, .bytes c t] []) Q E s := by
  refine entry_C slot_ba_extend (by decide +kernel) ⟨_, ho, rfl⟩ entry_ba_extend (args_ba_extend _ _) ?_
  unfold Builtin.«bytearray.extend»
  refine wpC_then (wpAny_of_eq (a := (.ref a, .bytes c t)) rfl ?_)
  refine wpC_then (wpAny_of_eq (KBy.special_eq KBy.look_buffer) ?_)
  refine wpC_yes ?_
  refine wpC_bind (wpC_rule (wpC_then (pay_ba ho rfl (wpC_then (wpAny_of_eq (take_eq _ _ _) ?_)))))
  refine wpC_yes ?_
  have wr : wpC (model prog w) A.in1 (do Builtin.Bytes.write (.ref a) (· ++ c); ret .none) (fun fin s' => ∃ v, fin = Fin.done (Flow.ret v) ∧ Q v s') E s :=
    wpC_then (write_ba ho (by rw [Array.size_append]; exact hz) fun h' h1 h2 => wpC_pure ⟨_, rfl, h h' h1 h2⟩)
  show wpC _ _ (if (!c.isEmpty) = true then (do Builtin.Bytes.checkResize (.ref a); Builtin.Bytes.write (.ref a) (· ++ c); ret .none) else (do Builtin.Bytes.write (.ref a) (· ++ c); ret .none)) _ _ _
  split
  · exact wpC_bind (resize_C ho wr)
  · exact wr
theorem slice_keeps {h h' : Heap} {a : Addr} {l u v : Value} (x : h.IsSliceOf a l u v) (k : ∀ b o, h.get? b = some o → h'.get? b = some o) : h'.IsSliceOf a l u v := by
  obtain ⟨o, e, r⟩ := x; exact ⟨o, k _ _ e, r⟩
theorem number_no {c : Array UInt8} {t : Tok} : (do return (← specialOf (.bytes c t) (Str.ofString "__index__")).isSome : Sem Bool) = pure false ∧ (do return (← specialOf (.bytes c t) (Str.ofString "__int__")).isSome : Sem Bool) = pure false ∧
    (do return (← specialOf (.bytes c t) (Str.ofString "__float__")).isSome : Sem Bool) = pure false ∧ isInstance (.bytes c t) (.type "complex") = pure false ∧ isInstance (.bytes c t) (.type "bytearray") = pure false := by
  refine ⟨?_, ?_, ?_, ?_, ?_⟩
  · rw [KBy.special_eq ba_noindex]; rfl
  · rw [KBy.special_eq bytes_noint]; rfl
  · rw [KBy.special_eq bytes_nofloat]; rfl
  · show isSubtype (.type "bytes") (.type "complex") = _; exact bytes_notcomplex
  · show isSubtype (.type "bytes") (.type "bytearray") = _; exact bytes_notba
theorem setslice_C {a sl : Addr} {b c : Array UInt8} {t : Tok} {l u : Value} {lo hi : Int} {Q : Unit → Shared → Prop} (ho : s.heap.get? a = some (baObj b)) (hs : s.heap.IsSliceOf sl l u .none) (pl : IsPart l (some lo)) (pu : IsPart u (some hi))
    (h0 : 0 ≤ lo) (h1 : lo ≤ hi) (h2 : lo ≤ b.size) (hz : b.size + c.size ≤ sizeLine)
    (h : ∀ h', h'.get? a = some (baObj (b.extract 0 lo.toNat ++ c ++ b.extract hi.toNat b.size)) → (∀ x o, x ≠ a → s.heap.get? x = some o → h'.get? x = some o) → Q () { s with heap := h' }) :
    wpC (model prog w) A (setItem (.ref a) (.ref sl) (.bytes c t)) Q E s := by
  unfold setItem
  refine wpC_holding (wpC_then (wpAny_sequenceKey (T := "bytearray") ⟨_, ho, rfl⟩ (by decide) ?_))
  refine wpC_bind (special_C slot_ba_setitem (by decide +kernel) ⟨_, ho, rfl⟩ entry_ba_setitem (args_ba_setitem _ _ _) ?_)
  unfold Builtin.«bytearray.__setitem__»
  have hT : s.TypeIs (.ref sl) "slice" := by obtain ⟨o, e1, e2, _⟩ := hs; exact ⟨o, e1, e2⟩
  refine wpC_then (no_sub hs ?_)
  refine wpC_then (wpAny_typeOf hT ?_)
  refine wpC_then (parts_of pl pu hs ?_)
  have nn := @number_no c t
  refine wpC_then (wpAny_of_eq (a := false) nn.2.2.2.2 (wpC_yes ?_))
  refine rwg nn.1 (rwg nn.2.1 (rwg nn.2.2.1 (rwg nn.2.2.2.1 ?_)))
  refine wpC_then (wpAny_of_eq (a := false) rfl ?_)
  refine wpC_then (wpAny_of_eq (a := none) rfl (wpC_no ?_))
  refine wpC_bind (wpC_rule (wpC_bind (make_ba1 (by lia) fun a' h' f1 f2 f3 => ?_)))
  refine wpC_bind (wpC_holding (wpC_of (parts_of pl pu (slice_keeps hs f3) ?_)))
  refine wpC_then (pay_ba f2 rfl (wpC_then (pay_ba (f3 _ _ ho) rfl ?_)))
  refine rwg (sliceIndices_raw (some lo) (some hi) none b.size (fun e => nomatch e)) (rwg (sliceBounds_plain ..) (wpC_bind (wpC_pure (wpC_pos (by decide) ?_))))
  have l1 : lo.toNat ≤ hi.toNat := Int.toNat_le_toNat h1
  have l2 : lo.toNat ≤ b.size := Int.toNat_le.mpr h2
  have e1 : clipAt b.size lo = lo.toNat := by
    have := clipAt_nat b.size lo.toNat
    rw [Int.toNat_of_nonneg h0] at this
    exact this.trans (Nat.min_eq_left l2)
  have e2 : clipAt b.size hi = min hi.toNat b.size := by
    have := clipAt_nat b.size hi.toNat
    rwa [Int.toNat_of_nonneg (Int.le_trans h0 h1)] at this
  refine rwg (show (some lo).elim 0 (clipAt b.size) = lo.toNat from e1) (rwg (show (some hi).elim b.size (clipAt b.size) = min hi.toNat b.size from e2) ?_)
  have e3 : (max ((lo.toNat : Nat) : Int) ((min hi.toNat b.size : Nat) : Int)).toNat = min hi.toNat b.size := by
    rw [Int.max_eq_right (Int.ofNat_le.mpr (Nat.le_min.mpr ⟨l1, l2⟩)), Int.toNat_natCast]
  have e4 : b.extract (min hi.toNat b.size) b.size = b.extract hi.toNat b.size := by
    rcases Nat.le_total hi.toNat b.size with q | q
    · rw [Nat.min_eq_left q]
    · rw [Nat.min_eq_right q, Array.extract_eq_empty_of_le (by rw [Nat.min_self]; exact Nat.le_refl _), Array.extract_eq_empty_of_le (by rw [Nat.min_self]; exact q)]
  have sz : (b.extract 0 lo.toNat ++ c ++ b.extract hi.toNat b.size).size ≤ sizeLine := by
    simp only [Array.size_append, Array.size_extract]; lia
  have wr : wpC (model prog w) A.in1 (do Builtin.Bytes.write (.ref a) (fun y => y.extract 0 ((lo.toNat : Nat) : Int).toNat ++ c ++ y.extract (max ((lo.toNat : Nat) : Int) ((min hi.toNat b.size : Nat) : Int)).toNat y.size); ret .none)
      (fun fin s' => ∃ v, fin = Fin.done (Flow.ret v) ∧ wpC (model prog w) A (pure ()) Q E s') E { s with heap := h' } := by
    have key : b.extract 0 ((lo.toNat : Nat) : Int).toNat ++ c ++ b.extract (max ((lo.toNat : Nat) : Int) ((min hi.toNat b.size : Nat) : Int)).toNat b.size = b.extract 0 lo.toNat ++ c ++ b.extract hi.toNat b.size := by
      rw [e3, e4, Int.toNat_natCast]
    refine wpC_then (write_ba (f3 _ _ ho) (by rw [key]; exact sz) fun h'' g1 g2 => wpC_pure ⟨_, rfl, wpC_pure ?_⟩)
    rw [key] at g1
    exact h h'' g1 fun x o hx e => (g2.2 x hx).trans (f3 _ _ e)
  refine wpC_bind (wpC_rule ?_)
  split
  · exact wpC_bind (resize_C (f3 _ _ ho) wr)
  · exact wr
end
end Mine
end
section
namespace Mine
theorem dropped (l n : Nat) (bs : List UInt8) : ∀ (off : Nat), off + bs.length = n → ((bs.zipIdx off).filterMap fun (x : UInt8 × Nat) => if Builtin.Bytes.selects (l : Int) (n : Int) 1 x.2 = true then none else some x.1) = bs.take (l - off) := by
  induction bs with
  | nil => intro off _; rw [List.take_nil]; rfl
  | cons b bs ih =>
    intro off h
    have ih := ih (off + 1) (by rw [← h, List.length_cons]; exact Nat.succ_add _ _)
    have hn : off < n := by rw [← h]; exact Nat.lt_add_of_pos_right (Nat.succ_pos _)
    rw [List.zipIdx_cons, List.filterMap_cons]
    by_cases q : l ≤ off
    · have e : Builtin.Bytes.selects (l : Int) (n : Int) 1 off = true := by
        unfold Builtin.Bytes.selects
        simp [Int.emod_one]; exact ⟨q, hn⟩
      simp only [e, if_true]
      rw [ih, Nat.sub_eq_zero_of_le q, Nat.sub_eq_zero_of_le (Nat.le_succ_of_le q)]; rfl
    · have e : Builtin.Bytes.selects (l : Int) (n : Int) 1 off = false := by
        unfold Builtin.Bytes.selects
        simp; lia
      simp only [e, Bool.false_eq_true, if_false]
      rw [ih, ← Nat.succ_pred_eq_of_pos (Nat.sub_pos_of_lt (Nat.lt_of_not_le q)), List.take_succ_cons]; rfl
section
variable {prog : Program} {w : World} {A : Around} {s : Shared} {E : Value → Shared → Prop}
theorem delslice_C {a sl : Addr} {b : Array UInt8} {l : Value} {lo : Int} {Q : Unit → Shared → Prop} (ho : s.heap.get? a = some (baObj b)) (hs : s.heap.IsSliceOf sl l .none .none) (pl : IsPart l (some lo))
    (h0 : 0 ≤ lo) (h2 : lo ≤ b.size) (hz : b.size ≤ sizeLine) (h : ∀ h', h'.get? a = some (baObj (b.toList.take lo.toNat).toArray) → Heap.SameBut a s.heap h' → Q () { s with heap := h' }) :
    wpC (model prog w) A (delItem (.ref a) (.ref sl)) Q E s := by
  unfold delItem
  refine wpC_holding (wpC_then (wpAny_sequenceKey (T := "bytearray") ⟨_, ho, rfl⟩ (by decide) ?_))
  refine wpC_bind (special_C slot_ba_delitem (by decide +kernel) ⟨_, ho, rfl⟩ entry_ba_delitem (args_ba_delitem _ _) ?_)
  unfold Builtin.«bytearray.__delitem__»
  have hT : s.TypeIs (.ref sl) "slice" := by obtain ⟨o, e1, e2, _⟩ := hs; exact ⟨o, e1, e2⟩
  refine wpC_then (wpAny_of_eq (a := (.ref a, [.ref sl])) rfl ?_)
  refine wpC_then (no_sub hs ?_)
  refine wpC_then (wpAny_typeOf hT ?_)
  refine wpC_then (parts_of pl .none hs ?_)
  refine wpC_then (pay_ba ho rfl ?_)
  show wpC _ _ (sliceIndices (rawPart (some lo)) (rawPart none) (rawPart none) b.size >>= fun r => _) _ _ _
  rw [sliceIndices_raw (some lo) none none b.size (fun e => nomatch e), sliceBounds_plain]
  refine wpC_bind (wpC_pure ?_)
  dsimp only [Option.elim]
  have e1 : clipAt b.size lo = lo.toNat := by
    have := clipAt_nat b.size lo.toNat
    rw [Int.toNat_of_nonneg h0] at this; lia
  rw [e1]
  refine wpC_bind (wpC_rule ?_)
  have wr : wpC (model prog w) A.in1 (do Builtin.Bytes.write (.ref a) (fun y => (y.toList.zipIdx.filterMap fun (x, k) => if Builtin.Bytes.selects ((lo.toNat : Nat) : Int) ((b.size : Nat) : Int) 1 k then none else some x).toArray); ret .none)
      (fun fin s' => ∃ v, fin = Fin.done (Flow.ret v) ∧ wpC (model prog w) A (pure ()) Q E s') E s := by
    have key : (b.toList.zipIdx.filterMap fun (x, k) => if Builtin.Bytes.selects ((lo.toNat : Nat) : Int) ((b.size : Nat) : Int) 1 k then none else some x).toArray = (b.toList.take lo.toNat).toArray := by
      have := dropped lo.toNat b.size b.toList 0 (by simp)
      rw [Nat.sub_zero] at this
      exact congrArg _ this
    refine wpC_then (write_ba ho (by rw [key]; simp; lia) fun h'' g1 g2 => wpC_pure ⟨_, rfl, wpC_pure ?_⟩)
    rw [key] at g1
    exact h h'' g1 g2
  split
  · exact wpC_bind (resize_C ho wr)
  · exact wr
end
end Mine
end
section
namespace Mine
noncomputable def HeldOk (A : Around) (h : Heap) : Prop := A.handled = none ∨ ∃ e o vs, A.handled = some (.ref e) ∧ h.get? e = some o ∧ o.data = .fields vs ∧ vs[2]? = some .none
theorem HOk.held {base h : Heap} {A : Around} (x : HOk base A) (k : ∀ a o, base.get? a = some o → h.get? a = some o) : HeldOk A h := by
  refine foldg fun G0 fin0 => ?_
  rcases x with x | ⟨e, o, vs, h1, h2, h3, h4⟩
  · refine fin0 ?_
    exact .inl x
  · refine fin0 ?_
    exact .inr ⟨e, o, vs, h1, k _ _ h2, h3, h4⟩
theorem entry_unchain : entryFor table "proto.unchain" = some Builtin.«proto.unchain» := entryFor_of_tree (by kernel_rfl)
section
variable {prog : Program} {w : World} {A : Around} {s : Shared} {E : Value → Shared → Prop}
theorem raise_H {α : Type} {e : Addr} {oe : Obj} {ve : Array Value} {Q : α → Shared → Prop} (hh : HeldOk A s.heap) (he : s.heap.get? e = some oe) (hd : oe.data = .fields ve) (h2 : 2 < ve.size)
    (hn : ∀ c, A.handled = some (.ref c) → c ≠ e) (h : ∀ h', (∀ b o, b ≠ e → s.heap.get? b = some o → h'.get? b = some o) → (∃ ve', h'.get? e = some { oe with data := .fields ve' } ∧ ve'[0]? = ve[0]? ∧ ve'[1]? = ve[1]?) → E (.ref e) { s with heap := h' }) :
    wpAny (model prog w) A (raiseNew (.ref e) : Sem α) Q E s := by
  unfold raiseNew
  refine wpAny_bind (wpAny_handled ?_)
  refine foldg fun G0 fin0 => ?_
  rcases hh with hh | ⟨c, o, vs, h1, h3, h4, h5⟩
  · refine fin0 ?_
    refine rwg hh ?_
    refine wpAny_bind (wpAny_pure (wpAny_throw (h s.heap (fun u_ u_ u_ x => x) ⟨ve, ?_, rfl, rfl⟩)))
    rw [he]; cases oe; cases hd; rfl
  · refine fin0 ?_
    refine rwg h1 ?_
    have ne : (Value.ref c != Value.ref e) = true := by simpa using hn c h1
    simp only [ne, if_true]
    refine wpAny_bind (wpAny_holding (wpAny_runValue (codeAny_builtin entry_unchain ?_)))
    unfold Builtin.«proto.unchain»
    refine wpAny_bind (wpAny_field h3 h4 h5 ?_)
    refine wpAny_pure ?_
    unfold updateField
    refine wpAny_bind (wpAny_bind (wpAny_load he ?_))
    refine rwg hd ?_
    simp only [h2, if_true]
    refine wpAny_update he (wpAny_throw (h _ (fun b o hb x => (Heap.get?_update_ne _ _ _ _ hb).trans x) ⟨ve.setIfInBounds 2 (.ref c), ?_, ?_, ?_⟩))
    · refine rwg (Heap.get?_update_self _ he (Obj.isFreed_of_fields (Obj.data_mapFields hd _))) ?_
      cases oe; cases hd; rfl
    · simp
    · simp
end
end Mine
end
section
namespace Mine
theorem HeldOk.keep {A : Around} {h h' : Heap} (x : HeldOk A h) (k : ∀ c o, A.handled = some (.ref c) → h.get? c = some o → h'.get? c = some o) : HeldOk A h' := by
  rcases x with x | ⟨e, o, vs, h1, h2, h3, h4⟩
  · exact .inl x
  · exact .inr ⟨e, o, vs, h1, k _ _ h1 h2, h3, h4⟩
section
variable {prog : Program} {w : World} {A : Around} {s : Shared} {E : Value → Shared → Prop}
theorem stop_raise {α : Type} {Q : α → Shared → Prop} (hh : HeldOk A s.heap)
    (h : ∀ e h', s.heap.get? e = none → (∀ b o, s.heap.get? b = some o → h'.get? b = some o) → (∃ o, h'.get? e = some o ∧ o.cls = .type "StopIteration") → E (.ref e) { s with heap := h' }) :
    wpAny (model prog w) A (do let e ← newExc (.type "StopIteration") []; raiseNew e : Sem α) Q E s := by
  refine wpAny_bind ?_
  refine wpAny_bind (wpAny_newObj_type ?_ (by size_fits))
  refine wpAny_bind (m := firstArgMember _ _) (wpAny_of_eq (a := Value.none) (by first | rfl | (simp only [firstArgMember]; rfl)) ?_)
  refine wpAny_newObj_type ?_ (by size_fits)
  have nw : s.heap.get? (s.heap.objs.size + 1) = none := by
    cases q : s.heap.get? (s.heap.objs.size + 1) with
    | none => rfl
    | some o => exact absurd (Heap.lt_size q) (Nat.not_lt.mpr (Nat.le_succ _))
  refine raise_H (ve := _) (hh.keep fun c o u_ e => Heap.get?_push_of_some _ (Heap.get?_push_of_some _ e)) (Heap.get?_push_size _ rfl) rfl (by rw [Array.size_append]; exact Nat.lt_of_lt_of_le (by simp) (Nat.le_add_right 6 _)) (fun c hc q => ?_) fun h' k x => ?_
  · rcases hh with hh | ⟨c', o, vs, h1, h3, _⟩
    · rw [hh] at hc; cases hc
    · rw [h1] at hc; cases hc
      have := Heap.lt_size h3
      rw [q, Heap.size_push] at this
      exact absurd this (Nat.not_lt.mpr (Nat.le_succ _))
  · rw [Heap.size_push] at k x ⊢
    refine foldg fun G0 fin0 => ?_
    obtain ⟨ve', x1, _, _⟩ := x
    refine fin0 ?_
    refine h _ _ nw (fun b o e => k b o (fun q => by rw [q, nw] at e; cases e) (Heap.get?_push_of_some _ (Heap.get?_push_of_some _ e))) ⟨_, x1, rfl⟩
theorem next_list_end {it l : Addr} {i : Nat} {items : Array Value} {Q : Option Value → Shared → Prop} (hh : HeldOk A s.heap) (hn : ∀ c, A.handled = some (.ref c) → c ≠ it)
    (hit : s.heap.IsListIter it l i) (hl : s.heap.IsList l items) (hx : items[i]? = none)
    (hQ : ∀ h', (∀ b o, b ≠ it → s.heap.get? b = some o → h'.get? b = some o) → (∃ o, h'.get? it = some o) → Q none { s with heap := h' }) : wpAny (model prog w) A (pyNext (.ref it)) Q E s := by
  refine foldg fun G0 fin0 => ?_
  obtain ⟨o, ho, hc, hd⟩ := id hit
  obtain ⟨ol, hol, _, nl, hdl⟩ := hl
  refine fin0 ?_
  unfold pyNext
  refine wpAny_bind (wpAny_attempt (wpAny_callSpecial?_slot (name := Str.ofString "__next__") hit.typeIs slot_listiter_next
    (wpAny_call_entry slot_listiter_next hit.typeIs entry_listiter_next ?_ (args_listiter_next _))))
  show wpAny _ _ (field (.ref it) 0 >>= _) _ _ s
  refine wpAny_bind (wpAny_field ho hd (x := .ref l) rfl ?_)
  refine wpAny_neg (show ¬ ((Value.ref l == Value.none) = true) from Bool.false_ne_true) ?_
  refine wpAny_bind (wpAny_field ho hd (x := .int i 0) rfl ?_)
  refine wpAny_bind (wpAny_seqItems hol hdl ?_)
  simp only [Int.toNat_natCast, hx]
  refine wpAny_bind (wpAny_rule (wpAny_bind (wpAny_setField ho hd (by simp) ?_)))
  have hit' := Heap.get?_update_self (Obj.mapFields (·.setIfInBounds 0 Value.none)) ho (Obj.isFreed_of_fields (Obj.data_mapFields hd _))
  refine stop_raise (hh.keep fun c o hc e => (Heap.get?_update_ne _ _ _ _ (hn c hc)).trans e) fun e h' e1 e2 e3 => ?_
  refine foldg fun G0 fin0 => ?_
  obtain ⟨oe, e3, e4⟩ := e3
  refine fin0 ?_
  refine wpAny_bind (wpAny_isInstance (T := "StopIteration") (b := true) ⟨oe, e3, e4⟩ isSubtype_stop ?_)
  exact wpAny_pure (hQ _ (fun b o hb x => e2 _ _ ((Heap.get?_update_ne _ _ _ _ hb).trans x)) ⟨_, e2 _ _ hit'⟩)
theorem next_range_end {it : Addr} {x left step : Int} {Q : Option Value → Shared → Prop} (hh : HeldOk A s.heap) (hit : IsRangeIter s.heap it x left step) (hleft : left ≤ 0)
    (hQ : ∀ h', (∀ b o, s.heap.get? b = some o → h'.get? b = some o) → Q none { s with heap := h' }) : wpAny (model prog w) A (pyNext (.ref it)) Q E s := by
  have hT : s.TypeIs (.ref it) "range_iterator" := ⟨_, hit, rfl⟩
  unfold pyNext
  refine wpAny_bind (wpAny_attempt (wpAny_callSpecial?_slot (name := Str.ofString "__next__") hT F.slot_range_iterator_next
    (wpAny_call_entry F.slot_range_iterator_next hT F.entry_range_iterator_next ?_ (F.args_range_iterator_next_1 _))))
  show wpAny _ _ (field (.ref it) 0 >>= _) _ _ s
  refine wpAny_bind (wpAny_field hit rfl (x := rawInt x) rfl ?_)
  refine wpAny_bind (wpAny_field hit rfl (x := rawInt left) rfl ?_)
  refine wpAny_bind (wpAny_field hit rfl (x := rawInt step) rfl ?_)
  refine wpAny_pos hleft ?_
  refine wpAny_bind (wpAny_rule ?_)
  refine wpAny_bind ?_
  refine stop_raise hh fun e h' e1 e2 e3 => ?_
  refine foldg fun G0 fin0 => ?_
  obtain ⟨oe, e3, e4⟩ := e3
  refine fin0 ?_
  refine wpAny_bind (wpAny_isInstance (T := "StopIteration") (b := true) ⟨oe, e3, e4⟩ isSubtype_stop ?_)
  exact wpAny_pure (hQ _ e2)
end
end Mine
end
section
namespace Mine
theorem Fz.set_set (z : Fz) (a : Addr) (o o' : Obj) : (z.set a o).set a o' = z.set a o' := by
  funext b; unfold Fz.set; split <;> rfl
structure BlockOk (env : Env) (L : Addr) (ns : Names) (vis : Vis) : Prop extends EnvOk env ns where
  loc : env.locals = L
  kinds : ∀ p ∈ vis, ns.lookup p.2 = some .local ∨ ns.lookup p.2 = some .cell
  fst : ∀ p ∈ vis, ∀ q ∈ vis, p.1 = q.1 → p = q
  snd : ∀ p ∈ vis, ∀ q ∈ vis, p.2 = q.2 → p = q
structure Here (C : Cx) (z₀ z fr₀ : Fz) (env : Env) (L : Addr) (ρ : Loc) (vis : Vis) (o : Obj) : Prop where
  dat : ∃ es n, o.data = .dict es n ∧ StrKeys es
  seen : EnvR C z (fr₀.set L o) env ρ vis
  cell : ∀ x, env.kindOf x = some .cell → ∃ c v oc, env.cells.lookup x = some c ∧ z c = some oc ∧ oc.data = .cell v ∧ z₀ c = none
  inj : ∀ x y c, env.cells.lookup x = some c → env.cells.lookup y = some c → x = y
section
variable {C : Cx} {base : Heap} {A : Around} {l : List Env} {z₀ z z' fr₀ : Fz} {env : Env} {L : Addr} {ns : Names} {vis : Vis} {ρ : Loc} {o : Obj} {σ : Store} {h : Heap} {g : Array GenState} {d : Drawn} {k : Tok} {os : OsState} {E' : Value → Shared → Prop}
theorem Here.mono (H : Here C z₀ z fr₀ env L ρ vis o) (hz : Zle z z') : Here C z₀ z' fr₀ env L ρ vis o :=
  ⟨H.dat, H.seen.mono hz, fun x hx => by obtain ⟨c, v, oc, h1, h2, h3⟩ := H.cell x hx; exact ⟨c, v, oc, h1, hz _ _ h2, h3⟩, H.inj⟩
theorem cellSet_ {M : Model} {s : Shared} {E : Value → Shared → Prop} {c : Addr} {oc : Obj} {v₀ v : Option Value} {Q : Unit → Shared → Prop} (ho : s.heap.get? c = some oc) (hd : oc.data = .cell v₀)
    (h : ∀ h', h'.get? c = some { oc with data := .cell v } → Heap.SameBut c s.heap h' → Q () { s with heap := h' }) : wpAny M A (cellSet c v) Q E s := by
  unfold cellSet
  refine wpAny_bind (wpAny_load ho ?_)
  refine rwg hd ?_
  exact wpAny_update ho (h _ (Heap.get?_update_self _ ho rfl) (Heap.SameBut.update ..))
theorem other_of (B : BlockOk env L ns vis) {i : Nat} {y : Str} (hv : (i, y) ∈ vis) {v : V} (hi : i < ρ.length) : ∀ p ∈ vis, ∀ v', (ρ.set i (some v))[p.1]? = some (some v') → (p = (i, y) ∧ v' = v) ∨ (p.2 ≠ y ∧ ρ[p.1]? = some (some v')) := fun p hp v' e => by
  by_cases q : p.1 = i
  · have := B.fst p hp (i, y) hv q
    subst this
    rw [List.getElem?_set_self hi] at e
    exact .inl ⟨rfl, by cases e; rfl⟩
  · rw [List.getElem?_set_ne (fun e => q e.symm)] at e
    exact .inr ⟨fun q' => q (congrArg Prod.fst (B.snd p hp (i, y) hv q')), e⟩
theorem here_local (B : BlockOk env L ns vis) (H : Here C z₀ z fr₀ env L ρ vis o) {i : Nat} {y : Str} (hv : (i, y) ∈ vis) (hk : env.kindOf y = some .local) {v : V} {val : Value} (rv : VR C z v val) (hi : i < ρ.length)
    {o' : Obj} {es es' : Array DictEntry} {n n' : Nat} (e1 : o.data = .dict es n) (f2 : o'.data = .dict es' n') (f3 : StrKeys es') (f4 : ∀ x, nsFind es' x = if x = y then some val else nsFind es x) : Here C z₀ z fr₀ env L (ρ.set i (some v)) vis o' := by
  have atL : ∀ o : Obj, (fr₀.set L o) env.locals = some o := fun o => by rw [B.loc]; exact Fz.set_self ..
  refine ⟨⟨es', n', f2, f3⟩, fun p hp v' e => ?_, H.cell, H.inj⟩
  rcases other_of B hv hi p hp v' e with ⟨rfl, rfl⟩ | ⟨ne, e⟩
  · exact ⟨val, .inl ⟨hk, o', es', n', atL o', f2, f3, by rw [f4]; simp⟩, rv⟩
  · obtain ⟨val', r1, r2⟩ := H.seen p hp v' e
    refine ⟨val', ?_, r2⟩
    rcases r1 with ⟨r1, o1, es1, n1, r3, r4, r5, r6⟩ | r1
    · have : o1 = o := Option.some.inj (r3.symm.trans (atL o))
      subst this
      rw [e1] at r4; cases r4
      exact .inl ⟨r1, o', es', n', atL o', f2, f3, by rw [f4]; simp only [ne, if_false]; exact r6⟩
    · exact .inr r1
theorem op_bind (B : BlockOk env L ns vis) (H : Here C z₀ z fr₀ env L ρ vis o) (hz : Zle z₀ z) (S : Sim C base z (fr₀.set L o) σ h) {i : Nat} {y : Str} (hv : (i, y) ∈ vis) {v : V} {val : Value} (rv : VR C z v val)
    (hi : i < ρ.length) {Q' : Unit → Shared → Prop} (hQ : ∀ z' o' h' k', Zle z₀ z' → Tle z z' → Here C z₀ z' fr₀ env L (ρ.set i (some v)) vis o' → Sim C base z' (fr₀.set L o') σ h' → Q' () ⟨h', g, d, k', os⟩) :
    wpAny (model C.prog C.w) A (bindName env y val) Q' E' ⟨h, g, d, k, os⟩ := by
  have kindE : ∀ x, env.kindOf x = ns.lookup x := fun x => by unfold Env.kindOf; rw [B.names]
  refine wpAny_bindName ?_
  refine foldg fun G0 fin0 => ?_
  obtain ⟨es, n, e1, e2⟩ := H.dat
  refine fin0 ?_
  have atL : (fr₀.set L o) L = some o := Fz.set_self ..
  refine foldg fun G0 fin0 => ?_
  rcases B.kinds _ hv with hl | hl
  · refine fin0 ?_
    have hk : env.kindOf y = some .local := (kindE y).trans hl
    refine wpAny_storeName_local hk (by rw [B.loc]; exact fr_ns S atL e1 e2) (fun h' hn hs => ?_) (by rw [B.kind]; rfl)
    rw [B.loc] at hn hs
    refine foldg fun G0 fin0 => ?_
    obtain ⟨o', es', n', f1, f2, f3, f4⟩ := hn
    refine fin0 ?_
    have S' := S.setFr atL (fun x ob hx e => (hs.2 x hx).trans e) f1 (fun vs q => by rw [f2] at q; cases q)
    rw [Fz.set_set] at S'
    exact hQ z o' h' _ hz (Tle.refl z) (here_local B H hv hk rv hi e1 f2 f3 f4) S'
  · refine fin0 ?_
    have hk : env.kindOf y = some .cell := (kindE y).trans hl
    refine foldg fun G0 fin0 => ?_
    obtain ⟨c, v₀, oc, c1, c2, c3, c5⟩ := H.cell y hk
    refine fin0 ?_
    have c4 : ¬isSeqCls oc := not_seq c3 rfl
    have hc := (S.fz c oc c2).1
    unfold storeName
    simp only [hk, B.kind]
    refine wpAny_bind (wpAny_cellOf c1 (cellSet_ hc c3 fun h' f1 f2 => ?_))
    obtain ⟨S', T⟩ := S.setZ c2 c4 (fun x ob hx e => (f2.2 x hx).trans e) f1
    have Z : Zle z₀ (z.set c { oc with data := .cell (some val) }) := fun a ob e => by
      rw [Fz.set_ne _ _ (fun q => by rw [q, c5] at e; cases e)]; exact hz _ _ e
    refine hQ _ o h' _ Z T ⟨H.dat, fun p hp v' e => ?_, fun x hx => ?_, H.inj⟩ S'
    · refine foldg fun G0 fin0 => ?_
      rcases other_of B hv hi p hp v' e with ⟨rfl, rfl⟩ | ⟨ne, e⟩
      · refine fin0 ?_
        exact ⟨val, .inr ⟨hk, c, _, c1, Fz.set_self .., rfl⟩, rv.mono T⟩
      · refine fin0 ?_
        refine foldg fun G0 fin0 => ?_
        obtain ⟨val', r1, r2⟩ := H.seen p hp v' e
        refine fin0 ?_
        refine ⟨val', ?_, r2.mono T⟩
        refine foldg fun G0 fin0 => ?_
        rcases r1 with r1 | ⟨r1, c', o', r3, r4, r5⟩
        · refine fin0 ?_
          exact .inl r1
        · refine fin0 ?_
          exact .inr ⟨r1, c', o', r3, (Fz.set_ne _ _ (fun q => ne (H.inj _ _ _ (q ▸ r3) c1))).trans r4, r5⟩
    · refine foldg fun G0 fin0 => ?_
      obtain ⟨c', v', o', r1, r2, r3, r5⟩ := H.cell x hx
      refine fin0 ?_
      by_cases q : c' = c
      · subst q
        exact ⟨c', _, _, r1, Fz.set_self .., rfl, r5⟩
      · exact ⟨c', v', o', r1, (Fz.set_ne _ _ q).trans r2, r3, r5⟩
end
end Mine
end
section
namespace Mine
section
variable {prog : Program} {w : World} {A : Around} {s : Shared} {E : Value → Shared → Prop}
theorem next_tuple_end {it l : Addr} {i : Nat} {items : Array Value} {Q : Option Value → Shared → Prop} (hh : HeldOk A s.heap) (hn : ∀ c, A.handled = some (.ref c) → c ≠ it)
    (hit : s.heap.IsTupleIter it l i) (hl : s.heap.IsTuple l items) (hx : items[i]? = none)
    (hQ : ∀ h', (∀ b o, b ≠ it → s.heap.get? b = some o → h'.get? b = some o) → (∃ o, h'.get? it = some o) → Q none { s with heap := h' }) : wpAny (model prog w) A (pyNext (.ref it)) Q E s := by
  obtain ⟨o, ho, hc, hd⟩ := id hit
  obtain ⟨ol, hol, _, nl, hdl⟩ := hl
  unfold pyNext
  refine wpAny_bind (wpAny_attempt (wpAny_callSpecial?_slot (name := Str.ofString "__next__") hit.typeIs F.slot_tuple_iterator_next
    (wpAny_call_entry F.slot_tuple_iterator_next hit.typeIs F.entry_tuple_iterator_next ?_ (F.args_tuple_iterator_next_1 _))))
  show wpAny _ _ (field (.ref it) 0 >>= _) _ _ s
  refine wpAny_bind (wpAny_field ho hd (x := .ref l) rfl ?_)
  refine wpAny_neg (show ¬ ((Value.ref l == Value.none) = true) from Bool.false_ne_true) ?_
  refine wpAny_bind (wpAny_field ho hd (x := .int i 0) rfl ?_)
  refine wpAny_bind (wpAny_seqItems hol hdl ?_)
  simp only [Int.toNat_natCast, hx]
  refine wpAny_bind (wpAny_rule (wpAny_bind (wpAny_setField ho hd (by simp) ?_)))
  have hit' := Heap.get?_update_self (Obj.mapFields (·.setIfInBounds 0 Value.none)) ho (Obj.isFreed_of_fields (Obj.data_mapFields hd _))
  refine stop_raise (hh.keep fun c o hc e => (Heap.get?_update_ne _ _ _ _ (hn c hc)).trans e) fun e h' e1 e2 e3 => ?_
  obtain ⟨oe, e3, e4⟩ := e3
  refine wpAny_bind (wpAny_isInstance (T := "StopIteration") (b := true) ⟨oe, e3, e4⟩ isSubtype_stop ?_)
  exact wpAny_pure (hQ _ (fun b o hb x => e2 _ _ ((Heap.get?_update_ne _ _ _ _ hb).trans x)) ⟨_, e2 _ _ hit'⟩)
theorem draw_list {it t : Addr} {items : Array Value} (hne : t ≠ it) (n : Nat) : ∀ (i : Nat) (s : Shared) (Q : List Value → Shared → Prop), s.heap.IsListIter it t i → s.heap.IsList t items → i + n ≤ items.size →
    (∀ h', h'.IsListIter it t (i + n) → Heap.SameBut it s.heap h' → Q ((items.toList.drop i).take n) { s with heap := h' }) → wpAny (model prog w) A (draw (.ref it) n) Q E s := by
  induction n with
  | zero => exact fun i s Q hit u_ u_ hQ => wpAny_pure (hQ s.heap hit (Heap.SameBut.refl ..))
  | succ n ih =>
    intro i s Q hit ht hle hQ
    have hlt : i < items.size := Nat.lt_of_lt_of_le (Nat.lt_add_of_pos_right (Nat.succ_pos _)) hle
    have e1 : i + 1 + n = i + (n + 1) := by rw [Nat.add_assoc, Nat.add_comm 1]
    refine wpAny_bind (wpAny_pyNext_list_item hit ht (x := items[i]) (by simp [hlt]) fun h₁ hit₁ hs₁ => ?_)
    refine wpAny_bind (wpAny_holding (ih (i + 1) _ _ hit₁ (ht.extBut hs₁.extBut hne) (e1 ▸ hle) fun h₂ hit₂ hs₂ => wpAny_pure ?_))
    have hd : items.toList.drop i = items[i] :: items.toList.drop (i + 1) := by simp [List.drop_eq_getElem_cons, hlt]
    have := hQ h₂ (e1 ▸ hit₂) (hs₁.trans hs₂)
    rw [hd, List.take_succ_cons] at this
    exact this
theorem held_ne {h : Heap} (hh : HeldOk A h) : ∀ c, A.handled = some (.ref c) → c ≠ h.objs.size := fun c hc q => by
  rcases hh with hh | ⟨e, o, vs, h1, h2, _⟩
  · rw [hh] at hc; cases hc
  · rw [h1] at hc; cases hc
    rw [q, get_size] at h2; cases h2
theorem unpack_list {t : Addr} {items : Array Value} {n : Nat} {Q : List Value → Shared → Prop} (hh : HeldOk A s.heap) (ht : s.heap.IsList t items) (hn : n = items.size)
    (hQ : ∀ h', (∀ b o, s.heap.get? b = some o → h'.get? b = some o) → Q items.toList { s with heap := h' }) : wpAny (model prog w) A (unpackItems (.ref t) n none) Q E s := by
  subst hn
  have hlt : t ≠ s.heap.objs.size := by obtain ⟨o, ho, _⟩ := ht; exact Nat.ne_of_lt (Heap.lt_size ho)
  unfold unpackItems
  refine wpAny_bind ?_
  unfold notIterableAtAll
  refine wpAny_bind (wpAny_specialOf ht.typeIs slot_list_iter.lookup ?_)
  refine wpAny_pure ?_
  refine wpAny_no ?_
  refine wpAny_bind (wpAny_holding (wpAny_pyIter_list ht ?_))
  refine wpAny_bind (wpAny_holding (draw_list hlt items.size 0 _ _ ⟨_, Heap.get?_push_size _ rfl, rfl, rfl⟩ (ht.push _) (by lia) fun h₁ hit₁ hs₁ => ?_))
  have hall : List.take items.size (List.drop 0 items.toList) = items.toList := by
    rw [List.drop_zero]; exact List.take_of_length_le (by simp)
  refine rwg hall ?_
  refine wpAny_neg (by simp) ?_
  have ht₁ : h₁.IsList t items := (ht.push _).extBut hs₁.extBut hlt
  have k1 : ∀ b o, s.heap.get? b = some o → h₁.get? b = some o := fun b o e => hs₁.extBut b o (Nat.ne_of_lt (Heap.lt_size e)) (Heap.get?_push_of_some _ e)
  refine wpAny_bind (wpAny_holding (next_list_end (hh.keep fun c o u_ e => k1 _ _ e) (held_ne hh) hit₁ ht₁ (by simp) fun h₂ he₂ u_ => ?_))
  refine wpAny_no ?_
  exact wpAny_pure (hQ h₂ fun b o e => he₂ b o (Nat.ne_of_lt (Heap.lt_size e)) (k1 b o e))
theorem unpack_tuple {t : Addr} {items : Array Value} {n : Nat} {Q : List Value → Shared → Prop} (hh : HeldOk A s.heap) (ht : s.heap.IsTuple t items) (hn : n = items.size)
    (hQ : ∀ h', (∀ b o, s.heap.get? b = some o → h'.get? b = some o) → Q items.toList { s with heap := h' }) : wpAny (model prog w) A (unpackItems (.ref t) n none) Q E s := by
  subst hn
  have hlt : t ≠ s.heap.objs.size := by obtain ⟨o, ho, _⟩ := ht; exact Nat.ne_of_lt (Heap.lt_size ho)
  unfold unpackItems
  refine wpAny_bind ?_
  unfold notIterableAtAll
  refine wpAny_bind (wpAny_specialOf ht.typeIs F.slot_tuple_iter.lookup ?_)
  refine wpAny_pure ?_
  refine wpAny_no ?_
  refine wpAny_bind (wpAny_holding (wpAny_pyIter_tuple ht ?_))
  refine wpAny_bind (wpAny_holding (wpAny_draw_tuple hlt items.size 0 _ _ ⟨_, Heap.get?_push_size _ rfl, rfl, rfl⟩ (ht.push _) (by lia) fun h₁ hit₁ hs₁ => ?_))
  have hall : List.take items.size (List.drop 0 items.toList) = items.toList := by
    rw [List.drop_zero]; exact List.take_of_length_le (by simp)
  refine rwg hall ?_
  refine wpAny_neg (by simp) ?_
  have ht₁ : h₁.IsTuple t items := (ht.push _).extBut hs₁.extBut hlt
  have k1 : ∀ b o, s.heap.get? b = some o → h₁.get? b = some o := fun b o e => hs₁.extBut b o (Nat.ne_of_lt (Heap.lt_size e)) (Heap.get?_push_of_some _ e)
  refine wpAny_bind (wpAny_holding (next_tuple_end (hh.keep fun c o u_ e => k1 _ _ e) (held_ne hh) hit₁ ht₁ (by simp) fun h₂ he₂ u_ => ?_))
  refine wpAny_no ?_
  exact wpAny_pure (hQ h₂ fun b o e => he₂ b o (Nat.ne_of_lt (Heap.lt_size e)) (k1 b o e))
end
end Mine
end
section
namespace Mine
noncomputable def RefX {α β : Type} (C : Cx) (base : Heap) (l : List Env) (z₀ fr₀ : Fz) (A : Around) (env : Env) (L : Addr) (vis : Vis) (t : Sem α) (tr : Loc → Tr β) (rel : Fz → β → α → Prop) : Prop :=
  ∀ z o ρ, Zle z₀ z → Here C z₀ z fr₀ env L ρ vis o → Ref C base l z (fr₀.set L o) A t (tr ρ) rel
noncomputable def RefT (C : Cx) (base : Heap) (l : List Env) (z₀ fr₀ : Fz) (A : Around) (env : Env) (L : Addr) (vis : Vis) (t : Value → Sem Unit) (tr : V → Loc → Tr Loc) : Prop :=
  ∀ z o ρ σ h k g d os v val (Q : Loc → Store → Prop) (X : Store → Prop), Zle z₀ z → Here C z₀ z fr₀ env L ρ vis o → VR C z v val → tr v ρ σ Q X → Sim C base z (fr₀.set L o) σ h →
    (A.handled = none ∨ ∀ σ, ¬ X σ) → ∀ (Q' : Unit → Shared → Prop) (E' : Value → Shared → Prop),
    (∀ z' o' ρ' σ' h' k', Zle z₀ z' → Tle z z' → Here C z₀ z' fr₀ env L ρ' vis o' → Sim C base z' (fr₀.set L o') σ' h' → Q ρ' σ' → Q' () ⟨h', g, d, k', os⟩) →
    PostX C base l z (fr₀.set L o) g d os X E' → wpC (model C.prog C.w) A (t val) Q' E' ⟨h, g, d, k, os⟩
section
variable {C : Cx} {base : Heap} {A : Around} {l : List Env} {z₀ fr₀ : Fz} {env : Env} {L : Addr} {ns : Names} {vis : Vis} {mg mb : Str → Option Value}
theorem tgt_x (B : BlockOk env L ns vis) {i : Nat} {y : Str} {pos : Pos} (hv : (i, y) ∈ vis) :
    RefT C base l z₀ fr₀ A env L vis (assign (.Name y pos) env) (fun v ρ σ Q u_ => i < ρ.length ∧ Q (ρ.set i (some v)) σ) := by
  intro z o ρ σ h k g d os v val Q X hz H rv q S hX Q' E' hQ hE
  refine wpC_bind (wpC_standAt (wpC_of ?_))
  exact op_bind B H hz S hv rv q.1 fun z' o' h' k' z1 z2 H' S' => hQ z' o' _ σ h' k' z1 z2 H' S' q.2
theorem tgt_attr (F : Facts C base mg mb) {x : PySem.Expr} {n : String} {m : Str} {pos : Pos} {fo : Loc → Tr V} (hm : Str.ofString n = m) (hn : attrNames.contains n = true)
    (ha : RefX C base l z₀ fr₀ A env L vis (eval x env) fo (VR C)) :
    RefT C base l z₀ fr₀ A env L vis (assign (.Attribute x m pos) env) (fun v ρ σ Q X => fo ρ σ (fun vo σ => wSetAttr σ vo n v fun σ => Q ρ σ) X) := by
  intro z o ρ σ h k g d os v val Q X hz H rv q S hX Q' E' hQ hE
  subst hm
  show wpC _ _ (do
    let ov ← holding [val] (eval x env)
    standAt pos.atName
    holding [val, ov] (setAttr ov (Str.ofString n) val)
    release [val, ov] []) _ _ _
  refine wpC_bind (wpC_holding ?_)
  refine ha z o ρ hz H z σ h k g d os _ X (Zle.refl _) q S hX _ _ (fun z₂ σ₂ va a h₂ k₂ hz₂ S₂ ra q₂ => ?_) hE
  refine wpC_bind (wpC_standAt (wpC_bind (wpC_holding (wpC_of (op_setattr F hn S₂ ra (rv.mono hz₂.t) q₂ fun σ' h' k' S' q' => ?_)))))
  exact wpC_release (hQ z₂ o ρ σ' h' k' (hz.trans hz₂) hz₂.t (H.mono hz₂) S' q')
theorem tgt_sub {x y : PySem.Expr} {pos : Pos} {fa fi : Loc → Tr V} (hn : notSlice y = true)
    (ha : RefX C base l z₀ fr₀ A env L vis (eval x env) fa (VR C)) (hb : RefX C base l z₀ fr₀ A env L vis (eval y env) fi (VR C)) :
    RefT C base l z₀ fr₀ A env L vis (assign (.Subscript x y pos) env) (fun v ρ σ Q X => fa ρ σ (fun va σ => fi ρ σ (fun vi σ => wSetSub σ va vi v fun σ => Q ρ σ) X) X) := by
  intro z o ρ σ h k g d os v val Q X hz H rv q S hX Q' E' hQ hE
  rw [assign_Subscript]
  refine wpC_bind (wpC_holding ?_)
  refine ha z o ρ hz H z σ h k g d os _ X (Zle.refl _) q S hX _ _ (fun z₂ σ₂ va a h₂ k₂ hz₂ S₂ ra q₂ => ?_) hE
  refine wpC_bind (wpC_holding ?_)
  refine hb z₂ o ρ (hz.trans hz₂) (H.mono hz₂) z₂ σ₂ h₂ k₂ g d os _ X (Zle.refl _) q₂ S₂ hX _ _ (fun z₃ σ₃ vi i h₃ k₃ hz₃ S₃ ri q₃ => ?_) (hE.mono hz₂)
  refine wpC_bind (wpC_standAt (wpC_bind (wpC_holding (wpC_of (op_setsub S₃ (ra.mono hz₃.t) ri (rv.mono (hz₂.trans hz₃).t) q₃ fun σ' h' k' S' q' => ?_)))))
  exact wpC_release (hQ z₃ o ρ σ' h' k' (hz.trans (hz₂.trans hz₃)) (hz₂.trans hz₃).t (H.mono (hz₂.trans hz₃)) S' q')
theorem tgt_slice {x lo hi : PySem.Expr} {p pos : Pos} {fa fl fh : Loc → Tr V}
    (ha : RefX C base l z₀ fr₀ A env L vis (eval x env) fa (VR C)) (hl : RefX C base l z₀ fr₀ A env L vis (eval lo env) fl (VR C)) (hh : RefX C base l z₀ fr₀ A env L vis (eval hi env) fh (VR C)) :
    RefT C base l z₀ fr₀ A env L vis (assign (.Subscript x (.Slice (some lo) (some hi) none p) pos) env)
      (fun v ρ σ Q X => fa ρ σ (fun va σ => fl ρ σ (fun l σ => fh ρ σ (fun h σ => wSetSlice σ va l h v fun σ => Q ρ σ) X) X) X) := by
  intro z o ρ σ h k g d os v val Q X hz H rv q S hX Q' E' hQ hE
  rw [assign_Subscript]
  refine wpC_bind (wpC_holding ?_)
  refine ha z o ρ hz H z σ h k g d os _ X (Zle.refl _) q S hX _ _ (fun z₂ σ₂ va a h₂ k₂ hz₂ S₂ ra q₂ => ?_) hE
  show wpC _ _ (holding [val, a] (do
    let l ← eval lo env
    let u ← holding [l] (eval hi env)
    let s ← holding [l, u] (pure Value.none)
    newFields "slice" [l, u, s]) >>= _) _ _ _
  refine wpC_bind (wpC_holding (wpC_bind ?_))
  refine hl z₂ o ρ (hz.trans hz₂) (H.mono hz₂) z₂ σ₂ h₂ k₂ g d os _ X (Zle.refl _) q₂ S₂ hX _ _ (fun z₃ σ₃ l vl h₃ k₃ hz₃ S₃ rl q₃ => ?_) (hE.mono hz₂)
  have hz13 := hz₂.trans hz₃
  refine wpC_bind (wpC_holding ?_)
  refine hh z₃ o ρ (hz.trans hz13) (H.mono hz13) z₃ σ₃ h₃ k₃ g d os _ X (Zle.refl _) q₃ S₃ hX _ _ (fun z₄ σ₄ u vu h₄ k₄ hz₄ S₄ ru q₄ => ?_) (hE.mono hz13)
  have hz14 := hz13.trans hz₄
  refine wpC_bind (wpC_holding (wpC_pure ?_))
  refine wpC_of (wpAny_newObj_type ?_ (Nat.le_trans (show 3 ≤ 1000000 by decide) (by rw [sizeLine_eq]; decide)))
  refine wpC_bind (wpC_standAt ?_)
  obtain ⟨σ', r, q₄⟩ := q₄
  cases r with
  | ba r b c lo hi hr hb =>
    have := (ra.mono (hz₃.trans hz₄).t).ref_inv; subst this
    refine rl.int_e fun tl => ?_
    refine ru.int_e fun tu => ?_
    refine rv.bytes_e fun tv => ?_
    obtain ⟨c1, c2, c3, c4, c5, c6⟩ := hb
    have hc : h₄.get? r = some (baObj b.toArray) := S₄.cell r _ hr
    have kp : ∀ x ob, h₄.get? x = some ob → (h₄.push { cls := .type "slice", data := .fields #[.int lo tl, .int hi tu, .none] }).get? x = some ob := fun u_ u_ e => Heap.get?_push_of_some _ e
    refine wpC_bind (wpC_holding (setslice_C (s := ⟨_, g, d, _, os⟩) (kp _ _ hc) (Heap.IsSliceOf.new _ _ _ _) (.int _ _) (.int _ _) c1 c2 (by simpa using c4) (by rw [sizeLine_eq]; simp; lia) fun h' f1 f2 => ?_))
    refine wpC_release (hQ z₄ o ρ (σ₄.set r (.ba (b.take lo.toNat ++ c ++ b.drop hi.toNat))) h' _ (hz.trans hz14) hz14.t (H.mono hz14) ?_ q₄)
    refine S₄.updCell hr (fun u_ u_ => nofun) (fun u_ u_ => nofun) (fun x ob hx e => f2 x ob hx (kp _ _ e)) ?_
    show h'.get? r = some (baObj _)
    rw [f1]
    congr 3
    apply Array.toList_inj.mp
    simp [List.extract, List.take_of_length_le]
end
end Mine
end
section
namespace Mine
structure Bd where
  i : Nat
  y : Str
  v : V
  w : Value
noncomputable def setAll (bs : List Bd) (ρ : Loc) : Loc := bs.foldl (fun ρ b => ρ.set b.i (some b.v)) ρ
theorem setAll_comm (bs : List Bd) : ∀ (ρ : Loc) (i : Nat) (x : Option V), i ∉ bs.map (·.i) → setAll bs (ρ.set i x) = (setAll bs ρ).set i x := by
  induction bs with
  | nil => exact fun u_ u_ u_ u_ => rfl
  | cons b bs ih =>
    intro ρ i x h
    simp only [List.map_cons, List.mem_cons, not_or] at h
    unfold setAll
    refine rwg List.foldl_cons ?_
    refine rwg List.foldl_cons ?_
    refine rwg (List.set_comm _ _ (fun e => h.1 e)) ?_
    exact ih _ i x h.2
theorem setAll_rev (bs : List Bd) : ∀ (ρ : Loc), (bs.map (·.i)).Nodup → setAll bs.reverse ρ = setAll bs ρ := by
  induction bs with
  | nil => exact fun u_ u_ => rfl
  | cons b bs ih =>
    intro ρ h
    rw [List.map_cons, List.nodup_cons] at h
    have e : setAll (b :: bs).reverse ρ = (setAll bs.reverse ρ).set b.i (some b.v) := by
      unfold setAll; rw [List.reverse_cons, List.foldl_append]; rfl
    refine rwg e ?_
    refine rwg (ih ρ h.2) ?_
    exact (setAll_comm bs ρ b.i (some b.v) h.1).symm
noncomputable def StoresAre (M : Model) (A : Around) (env : Env) : List (Value → Sem Unit) → List Bd → Prop
  | [], bs => bs = []
  | t :: ts, bs => ∃ b bs', bs = b :: bs' ∧ (∀ (w : Value) (Q : Unit → Shared → Prop) (E : Value → Shared → Prop) s, wpAny M A (bindName env b.y w) Q E s → wpAny M A (t w) Q E s) ∧ StoresAre M A env ts bs'
section
variable {C : Cx} {base : Heap} {A : Around} {l : List Env} {z₀ fr₀ : Fz} {env : Env} {L : Addr} {ns : Names} {vis : Vis} {mg mb : Str → Option Value} {g : Array GenState} {d : Drawn} {os : OsState} {E' : Value → Shared → Prop}
theorem op_binds (B : BlockOk env L ns vis) (bs : List Bd) : ∀ (ts : List (Value → Sem Unit)) (z : Fz) (o : Obj) (ρ : Loc) (σ : Store) (h : Heap) (k : Tok), StoresAre (model C.prog C.w) A env ts bs → Zle z₀ z →
    Here C z₀ z fr₀ env L ρ vis o → Sim C base z (fr₀.set L o) σ h → (∀ b ∈ bs, (b.i, b.y) ∈ vis ∧ VR C z b.v b.w ∧ b.i < ρ.length) → ∀ (Q' : Unit → Shared → Prop),
    (∀ z' o' h' k', Zle z₀ z' → Tle z z' → Here C z₀ z' fr₀ env L (setAll bs ρ) vis o' → Sim C base z' (fr₀.set L o') σ h' → Q' () ⟨h', g, d, k', os⟩) →
    wpAny (model C.prog C.w) A (assignInOrder ts (bs.map (·.w))) Q' E' ⟨h, g, d, k, os⟩ := by
  induction bs with
  | nil =>
    intro ts z o ρ σ h k hs hz H S hb Q' hQ
    cases ts with
    | nil => exact wpAny_pure (hQ z o h k hz (Tle.refl z) H S)
    | cons t ts => obtain ⟨b, bs', e, _⟩ := hs; cases e
  | cons b bs ih =>
    intro ts z o ρ σ h k hs hz H S hb Q' hQ
    cases ts with
    | nil => cases hs
    | cons t ts =>
      refine foldg fun G0 fin0 => ?_
      obtain ⟨b', bs', e, h1, h2⟩ := hs
      refine fin0 ?_
      cases e
      refine foldg fun G0 fin0 => ?_
      obtain ⟨b1, b2, b3⟩ := hb b (.head _)
      refine fin0 ?_
      refine wpAny_bind (wpAny_holding (h1 _ _ _ _ (op_bind B H hz S b1 b2 b3 fun z' o' h' k' z1 z2 H' S' => ?_)))
      refine ih ts z' o' _ σ h' k' h2 z1 H' S' (fun b hb' => ?_) Q' fun z'' o'' h'' k'' z3 z4 H'' S'' => hQ z'' o'' h'' k'' z3 (z2.trans z4) H'' S''
      have c := hb b (.tail _ hb')
      exact ⟨c.1, c.2.1.mono z2, by rw [List.length_set]; exact c.2.2⟩
noncomputable def NamesAre (vis : Vis) : List Nat → List PySem.Expr → Prop
  | [], xs => xs = []
  | i :: is, xs => ∃ y pos xs', xs = .Name y pos :: xs' ∧ (i, y) ∈ vis ∧ NamesAre vis is xs'
theorem vis_mem {vis : Vis} {i : Nat} {y : Str} (h : (vis.any fun v => v.1 == i && v.2 == y) = true) : (i, y) ∈ vis := by
  obtain ⟨v, hv, e⟩ := List.any_eq_true.mp h
  have e := Bool.and_eq_true_iff.mp e
  rwa [← beq_iff_eq.mp e.1, ← beq_iff_eq.mp e.2]
theorem namesAre_of {vis : Vis} {is : List Nat} : ∀ {xs : List PySem.Expr}, is.length = xs.length → ((is.zip xs).all fun z => withA (asName z.2) fun y => vis.any fun v => v.1 == z.1 && v.2 == y.1) = true → NamesAre vis is xs := by
  induction is with
  | nil => exact fun h u_ => List.eq_nil_of_length_eq_zero h.symm
  | cons i is ih =>
    intro xs h h'
    cases xs with
    | nil => cases h
    | cons x xs =>
      obtain ⟨h1, h2⟩ := Bool.and_eq_true_iff.mp h'
      obtain ⟨p, e, h1⟩ := any_at h1
      exact ⟨_, p.2, xs, congrArg (· :: xs) e, vis_mem h1, ih (Nat.succ.inj h) h2⟩
noncomputable def bdsOf (is : List Nat) (xs : List PySem.Expr) (vs : List V) (ws : List Value) : List Bd := (is.zip (xs.zip (vs.zip ws))).filterMap fun p => (asName p.2.1).map fun n => ⟨p.1, n.1.1, p.2.2.1, p.2.2.2⟩
theorem bdsOf_cons {i : Nat} {is : List Nat} {y : Str} {pos : Pos} {xs : List PySem.Expr} {v : V} {vs : List V} {w : Value} {ws : List Value} : bdsOf (i :: is) (.Name y pos :: xs) (v :: vs) (w :: ws) = ⟨i, y, v, w⟩ :: bdsOf is xs vs ws := rfl
theorem bds_facts {vis : Vis} {z : Fz} {M : Model} {is : List Nat} : ∀ {xs : List PySem.Expr} {vs : List V} {ws : List Value}, NamesAre vis is xs → is.length = vs.length → VRs C z vs ws →
    (bdsOf is xs vs ws).map (·.w) = ws ∧ (bdsOf is xs vs ws).map (·.i) = is ∧ (∀ b ∈ bdsOf is xs vs ws, (b.i, b.y) ∈ vis ∧ VR C z b.v b.w ∧ b.i ∈ is) ∧
      (∀ ρ, setAll (bdsOf is xs vs ws) ρ = (is.zip vs).foldl (fun ρ p => ρ.set p.1 (some p.2)) ρ) ∧ StoresAre M A env ((assignEach xs env).map (·.2)) (bdsOf is xs vs ws) ∧
      (assignEach xs env).length = vs.length ∧ (assignEach xs env).findIdx? (·.1) = none := by
  induction is with
  | nil =>
    intro xs vs ws h hl rv
    have := (show xs = [] from h); subst this
    cases vs with
    | nil => have := rv.inv0; subst this; exact ⟨rfl, rfl, (fun b hb => (List.not_mem_nil hb).elim), fun u_ => rfl, rfl, rfl, rfl⟩
    | cons v vs => cases hl
  | cons i is ih =>
    intro xs vs ws h hl rv
    refine foldg fun G0 fin0 => ?_
    obtain ⟨y, pos, xs', rfl, h1, h2⟩ := h
    refine fin0 ?_
    cases vs with
    | nil => cases hl
    | cons v vs =>
      refine foldg fun G0 fin0 => ?_
      obtain ⟨w, ws', rfl, r1, r2⟩ := rv.inv
      obtain ⟨a1, a2, a3, a4, a5, a6, a7⟩ := ih h2 (Nat.succ.inj hl) r2
      refine fin0 ?_
      refine rwg bdsOf_cons ?_
      refine ⟨congrArg (w :: ·) a1, congrArg (i :: ·) a2, fun b hb => ?_, fun ρ => a4 (ρ.set i (some v)), ⟨_, _, rfl, fun w' Q E s hw => ?_, a5⟩, congrArg Nat.succ a6, ?_⟩
      · rcases List.mem_cons.mp hb with rfl | hb
        · exact ⟨h1, r1, .head _⟩
        · have b := a3 b hb
          exact ⟨b.1, b.2.1, .tail _ b.2.2⟩
      · exact wpAny_bind (wpAny_standAt hw)
      · show List.findIdx? (·.1) ((false, _) :: assignEach xs' env) = none
        rw [List.findIdx?_cons, a7]; rfl
theorem swap_names {vis : Vis} {f : PySem.Expr → Option Str} (hf : ∀ y pos s, f (.Name y pos) = some s → s = y) {is : List Nat} : ∀ {xs : List PySem.Expr} {vs : List V} {ws : List Value}, NamesAre vis is xs → is.length = vs.length → is.length = ws.length →
    (xs.filterMap f).length = xs.length → xs.filterMap f = (bdsOf is xs vs ws).map (·.y) := by
  induction is with
  | nil =>
    intro xs vs ws h hl hw hn
    have := (show xs = [] from h); subst this
    rfl
  | cons i is ih =>
    intro xs vs ws h hl hw hn
    obtain ⟨y, pos, xs', rfl, h1, h2⟩ := h
    cases vs with
    | nil => cases hl
    | cons v vs =>
      cases ws with
      | nil => cases hw
      | cons w ws =>
        cases q : f (.Name y pos) with
        | none =>
          rw [List.filterMap_cons_none q] at hn
          have := List.length_filterMap_le f xs'
          rw [hn] at this
          exact absurd this (Nat.not_succ_le_self _)
        | some s =>
          have := hf _ _ _ q
          subst this
          rw [List.filterMap_cons_some q] at hn ⊢
          rw [bdsOf_cons, List.map_cons]
          rw [ih h2 (Nat.succ.inj hl) (Nat.succ.inj hw) (Nat.succ.inj hn)]
theorem stores_names {M : Model} : ∀ bs : List Bd, StoresAre M A env (bs.map fun b => bindName env b.y) bs
  | [] => rfl
  | b :: bs => ⟨b, bs, rfl, fun u_ u_ u_ u_ h => h, stores_names bs⟩
end
end Mine
end
section
namespace Mine
noncomputable def RefA (C : Cx) (base : Heap) (l : List Env) (z₀ fr₀ : Fz) (A : Around) (env : Env) (L : Addr) (vis : Vis) (t : Value → Sem Flow) (tr : V → Loc → Tr Loc) : Prop :=
  ∀ z o ρ σ h k g d os v val (Q : Loc → Store → Prop) (X : Store → Prop), Zle z₀ z → Here C z₀ z fr₀ env L ρ vis o → VR C z v val → tr v ρ σ Q X → Sim C base z (fr₀.set L o) σ h →
    (A.handled = none ∨ ∀ σ, ¬ X σ) → ∀ (Q' : Flow → Shared → Prop) (E' : Value → Shared → Prop),
    (∀ z' o' ρ' σ' h' k', Zle z₀ z' → Tle z z' → Here C z₀ z' fr₀ env L ρ' vis o' → Sim C base z' (fr₀.set L o') σ' h' → Q ρ' σ' → Q' .next ⟨h', g, d, k', os⟩) →
    PostX C base l z (fr₀.set L o) g d os X E' → wpC (model C.prog C.w) A (t val) Q' E' ⟨h, g, d, k, os⟩
section
variable {C : Cx} {base : Heap} {A : Around} {l : List Env} {z₀ z fr₀ fr : Fz} {env : Env} {L : Addr} {ns : Names} {vis : Vis} {mg mb : Str → Option Value} {g : Array GenState} {d : Drawn} {os : OsState} {E' : Value → Shared → Prop}
  {σ : Store} {h : Heap} {k : Tok}
theorem op_unpack (hh : HeldOk A h) (S : Sim C base z fr σ h) {v : V} {val : Value} (rv : VR C z v val) {is : List Nat} {ρ : Loc} {K : Loc → Prop} (q : wUnpack is v ρ K) {n : Nat} (hn : n = is.length) {Q' : List Value → Shared → Prop}
    (hQ : ∀ vs ws h', (∀ b o, h.get? b = some o → h'.get? b = some o) → VRs C z vs ws → wUnp is vs ρ K → Q' ws ⟨h', g, d, k, os⟩) :
    wpAny (model C.prog C.w) A (unpackItems val n none) Q' E' ⟨h, g, d, k, os⟩ := by
  obtain ⟨vs, rfl | rfl, q⟩ := q
  · obtain ⟨a, ws, m, rfl, hz, hs⟩ := rv.tup_inv
    have ln := hs.length
    refine unpack_tuple (s := ⟨h, g, d, k, os⟩) hh (items := ws) ⟨_, (S.fz a _ hz).1, rfl, m, rfl⟩ ?_ fun h' kp => hQ _ _ h' kp hs q
    rw [hn, q.1.1, ← ln, Array.length_toList]
  · obtain ⟨a, ws, rfl, hl, hs⟩ := rv.isList S
    have ln := hs.length
    refine unpack_list (s := ⟨h, g, d, k, os⟩) hh (items := ws) hl ?_ fun h' kp => hQ _ _ h' kp hs q
    rw [hn, q.1.1, ← ln, Array.length_toList]
theorem tgt_tup (hh : HOk base A) (B : BlockOk env L ns vis) {is : List Nat} {xs : List PySem.Expr} {u pos} (hn : NamesAre vis is xs) (hl : is.length = xs.length) :
    RefT C base l z₀ fr₀ A env L vis (assign (.Tuple xs u pos) env) (fun v ρ σ Q u_ => wUnpack is v ρ fun ρ => Q ρ σ) := by
  intro z o ρ σ h k g d os v val Q X hz H rv q S hX Q' E' hQ hE
  have hl0 : is.length = (assignEach xs env).length := by
    clear q
    have : ∀ {is : List Nat} {xs : List PySem.Expr}, NamesAre vis is xs → is.length = (assignEach xs env).length := fun {is} => by
      induction is with
      | nil => intro xs h; have := (show xs = [] from h); subst this; rfl
      | cons i is ih => intro xs h; obtain ⟨y, pos, xs', rfl, _, h2⟩ := h; simp [assignEach, ih h2]
    exact this hn
  have hst : (assignEach xs env).findIdx? (·.1) = none := by
    have : ∀ {is : List Nat} {xs : List PySem.Expr}, NamesAre vis is xs → (assignEach xs env).findIdx? (·.1) = none := fun {is} => by
      induction is with
      | nil => intro xs h; have := (show xs = [] from h); subst this; rfl
      | cons i is ih => intro xs h; obtain ⟨y, pos, xs', rfl, _, h2⟩ := h; simp only [assignEach, List.findIdx?_cons, Bool.false_eq_true, if_false, ih h2]; rfl
    exact this hn
  refine wpC_bind (wpC_standAt (wpC_of ?_))
  unfold unpack
  refine rwg hst ?_
  refine wpAny_bind (wpAny_holding (op_unpack (hh.held S.bas) S rv q hl0.symm fun vs ws h' kp hs w => ?_))
  refine foldg fun G0 fin0 => ?_
  obtain ⟨b1, b2, b3, b4, b5, _⟩ := bds_facts (env := env) (A := A) (M := model C.prog C.w) hn w.1.1 hs
  refine fin0 ?_
  refine rwl b1 ?_
  refine op_binds B _ _ z o ρ σ h' k b5 hz H (S.keep kp) (fun b hb => ?_) Q' fun z' o' h'' k' z1 z2 H' S' => ?_
  · refine foldg fun G0 fin0 => ?_
    obtain ⟨c1, c2, c3⟩ := b3 b hb
    refine fin0 ?_
    exact ⟨c1, c2, w.1.2.2 _ c3⟩
  · rw [b4] at H'
    exact hQ z' o' _ σ h'' k' z1 z2 H' S' w.2
theorem swap_none_of {t y : PySem.Expr} (ht : ∀ xs u pos, t ≠ .Tuple xs u pos) (hl : ∀ xs pos, t ≠ .List xs pos) : swappedStores [t] y env = pure none := by
  cases t <;> first | rfl | exact absurd rfl (ht _ _ _) | exact absurd rfl (hl _ _)
theorem asg_plain {t y : PySem.Expr} {tr : V → Loc → Tr Loc} (ht : ∀ xs u pos, t ≠ .Tuple xs u pos) (hl : ∀ xs pos, t ≠ .List xs pos) (hs : ∀ e pos, t ≠ .Starred e pos)
    (r : RefT C base l z₀ fr₀ A env L vis (assign t env) tr) : RefA C base l z₀ fr₀ A env L vis (fun v => do assignStores env v (← swappedStores [t] y env) ((assignEach [t] env).map (·.2))) tr := by
  intro z o ρ σ h k g d os v val Q X hz H rv q S hX Q' E' hQ hE
  refine rwg (swap_none_of ht hl) ?_
  refine wpC_bind (wpC_pure ?_)
  have e : (assignEach [t] env).map (·.2) = [assign t env] := by cases t <;> first | rfl | exact absurd rfl (hs _ _)
  refine rwg e ?_
  show wpC _ _ (do assign t env val; (pure Flow.next : Sem Flow)) _ _ _
  refine wpC_bind (r z o ρ σ h k g d os v val Q X hz H rv q S hX _ E' (fun z' o' ρ' σ' h' k' z1 z2 H' S' q' => ?_) hE)
  exact wpC_pure (hQ z' o' ρ' σ' h' k' z1 z2 H' S' q')
theorem asg_tup (hh : HOk base A) (B : BlockOk env L ns vis) {is : List Nat} {xs : List PySem.Expr} {u pos} {y : PySem.Expr} (hy : swapOk y = true) (hn : NamesAre vis is xs) (hl : is.length = xs.length) :
    RefA C base l z₀ fr₀ A env L vis (fun v => do assignStores env v (← swappedStores [.Tuple xs u pos] y env) ((assignEach [.Tuple xs u pos] env).map (·.2))) (fun v ρ σ Q u_ => wUnpack is v ρ fun ρ => Q ρ σ) := by
  intro z o ρ σ h k g d os v val Q X hz H rv q S hX Q' E' hQ hE
  have none_case : wpC (model C.prog C.w) A (assignStores env val none ((assignEach [.Tuple xs u pos] env).map (·.2))) Q' E' ⟨h, g, d, k, os⟩ := by
    show wpC _ _ (do assign (.Tuple xs u pos) env val; (pure Flow.next : Sem Flow)) _ _ _
    refine wpC_bind (tgt_tup hh B hn hl z o ρ σ h k g d os v val Q X hz H rv q S hX _ E' (fun z' o' ρ' σ' h' k' z1 z2 H' S' q' => ?_) hE)
    exact wpC_pure (hQ z' o' ρ' σ' h' k' z1 z2 H' S' q')
  have some_case : ∀ f : PySem.Expr → Option Str, (∀ y pos s, f (.Name y pos) = some s → s = y) → (xs.filterMap f).length = xs.length →
      wpC (model C.prog C.w) A (assignStores env val (some (xs.filterMap f)) ((assignEach [.Tuple xs u pos] env).map (·.2))) Q' E' ⟨h, g, d, k, os⟩ := by
    intro f hf hfl
    show wpC _ _ (do
      rule "assign.swapped-stores"
      let items ← unpackItems val (xs.filterMap f).length none
      assignInOrder ((xs.filterMap f).reverse.map fun n => bindName env n) items.reverse
      (pure Flow.next : Sem Flow)) _ _ _
    refine wpC_bind (wpC_rule (wpC_bind (wpC_of (op_unpack (hh.held S.bas) S rv q (hfl.trans hl.symm) fun vs ws h' kp hs w => ?_))))
    obtain ⟨b1, b2, b3, b4, _, _⟩ := bds_facts (env := env) (A := A) (M := model C.prog C.w) hn w.1.1 hs
    have lw := hs.length
    rw [swap_names hf hn w.1.1 (by rw [lw]; exact w.1.1) hfl]
    have e1 : (((bdsOf is xs vs ws).map (·.y)).reverse.map fun n => bindName env n) = (bdsOf is xs vs ws).reverse.map fun b => bindName env b.y := by
      rw [← List.map_reverse, List.map_map]; rfl
    have e2 : ws.reverse = (bdsOf is xs vs ws).reverse.map (·.w) := by rw [List.map_reverse, b1]
    refine rwg e1 ?_
    refine rwg e2 ?_
    refine wpC_bind (wpC_of (op_binds B _ _ z o ρ σ h' k (stores_names _) hz H (S.keep kp) (fun b hb => ?_) _ fun z' o' h'' k' z1 z2 H' S' => ?_))
    · obtain ⟨c1, c2, c3⟩ := b3 b (List.mem_reverse.mp hb)
      exact ⟨c1, c2, w.1.2.2 _ c3⟩
    · rw [setAll_rev _ _ (by rw [b2]; exact w.1.2.1), b4] at H'
      exact wpC_pure (hQ z' o' _ σ h'' k' z1 z2 H' S' w.2)
  show wpC _ _ (swappedStores [.Tuple xs u pos] y env >>= fun sw => assignStores env val sw ((assignEach [.Tuple xs u pos] env).map (·.2))) _ _ _
  by_cases ht : ∃ vs u' pos', y = .Tuple vs u' pos'
  · obtain ⟨ys, u', pos', rfl⟩ := ht
    have hy : (!ys.all (constantsAlone 8) || ys.all (foldedForSure 8)) = true := hy
    unfold swappedStores
    dsimp only
    split
    · exact wpC_bind (wpC_pure none_case)
    · split
      · exact wpC_bind (wpC_pure none_case)
      · split
        · exact wpC_bind (wpC_pure none_case)
        · rename_i c1 c2 c3
          split
          · exact wpC_bind (wpC_pure none_case)
          · rename_i c4
            split
            · rename_i c5
              exfalso
              rw [c5] at hy
              simp only [Bool.not_true, Bool.false_or] at hy
              exact c4 hy
            · refine wpC_bind (wpC_pure (some_case _ (fun y pos s e => ?_) ?_))
              · dsimp only at e
                split at e
                · cases e; rfl
                · cases e
              · simp only [Bool.or_eq_true, bne_iff_ne, ne_eq, not_or, Decidable.not_not] at c3
                exact c3.1
  · have : swappedStores [.Tuple xs u pos] y env = pure none := by
      cases y <;> first | rfl | exact absurd ⟨_, _, _, rfl⟩ ht
    refine rwg this ?_
    exact wpC_bind (wpC_pure none_case)
end
end Mine
end
section
namespace Mine
noncomputable def FlR (C : Cx) (z : Fz) : Fl → Flow → Prop
  | .next, f => f = .next
  | .cont, f => f = .cont
  | .ret v, f => ∃ val, f = .ret val ∧ VR C z v val
section
variable (C : Cx) (base : Heap) (l : List Env) (z₀ fr₀ : Fz) (env : Env) (L : Addr) (vis : Vis) (g : Array GenState) (d : Drawn) (os : OsState)
noncomputable def PostF (z : Fz) (Q : Fl → Loc → Store → Prop) (Q' : Flow → Shared → Prop) : Prop :=
  ∀ z' o' ρ' σ' fl f h' k', Zle z₀ z' → Tle z z' → Here C z₀ z' fr₀ env L ρ' vis o' → Sim C base z' (fr₀.set L o') σ' h' → FlR C z' fl f → Q fl ρ' σ' → Q' f ⟨h', g, d, k', os⟩
noncomputable def PostE (z : Fz) (X : Loc → Store → Prop) (E' : Value → Shared → Prop) : Prop :=
  ∀ z' o' ρ' σ' e h' k', Zle z₀ z' → Tle z z' → Here C z₀ z' fr₀ env L ρ' vis o' → Fly C base l z' (fr₀.set L o') σ' e h' → X ρ' σ' → E' e ⟨h', g, d, k', os⟩
end
noncomputable def RefS (C : Cx) (base : Heap) (l : List Env) (z₀ fr₀ : Fz) (A : Around) (env : Env) (L : Addr) (vis : Vis) (t : Sem Flow) (tr : TrS) : Prop :=
  ∀ z o ρ σ h k g d os (Q : Fl → Loc → Store → Prop) (X : Loc → Store → Prop), Zle z₀ z → Here C z₀ z fr₀ env L ρ vis o → tr ρ σ Q X → Sim C base z (fr₀.set L o) σ h → (A.handled = none ∨ ∀ ρ σ, ¬ X ρ σ) →
    ∀ (Q' : Flow → Shared → Prop) (E' : Value → Shared → Prop), PostF C base z₀ fr₀ env L vis g d os z Q Q' → PostE C base l z₀ fr₀ env L vis g d os z X E' → wpC (model C.prog C.w) A t Q' E' ⟨h, g, d, k, os⟩
theorem no_swap {y : PySem.Expr} {t : Option PySem.Expr} {n : Nat} {env : Env} (h : notComp y = true) : swapsWith y t n env = pure false := by
  cases y <;> first | rfl | cases h
section
variable {C : Cx} {base : Heap} {A : Around} {l : List Env} {z₀ z z' fr₀ : Fz} {env : Env} {L : Addr} {ns : Names} {vis : Vis} {mg mb : Str → Option Value} {g : Array GenState} {d : Drawn} {os : OsState}
  {Q : Fl → Loc → Store → Prop} {X : Loc → Store → Prop} {Q' : Flow → Shared → Prop} {E' : Value → Shared → Prop}
theorem PostF.mono (x : PostF C base z₀ fr₀ env L vis g d os z Q Q') (t : Tle z z') : PostF C base z₀ fr₀ env L vis g d os z' Q Q' :=
  fun z₁ o ρ σ fl f h k z1 z2 => x z₁ o ρ σ fl f h k z1 (t.trans z2)
theorem PostE.mono (x : PostE C base l z₀ fr₀ env L vis g d os z X E') (t : Tle z z') : PostE C base l z₀ fr₀ env L vis g d os z' X E' :=
  fun z₁ o ρ σ e h k z1 z2 => x z₁ o ρ σ e h k z1 (t.trans z2)
theorem PostE.ex {o : Obj} {ρ : Loc} (x : PostE C base l z₀ fr₀ env L vis g d os z X E') (hz : Zle z₀ z) (H : Here C z₀ z fr₀ env L ρ vis o) : PostX C base l z (fr₀.set L o) g d os (X ρ) E' :=
  fun z₁ σ e h k z1 fl q => x z₁ o ρ σ e h k (hz.trans z1) z1.t (H.mono z1) fl q
theorem interactive_no (B : BlockOk env L ns vis) : interactive env = false := by
  unfold interactive; rw [B.kind]; rfl
theorem s_expr (B : BlockOk env L ns vis) {x : PySem.Expr} {pos : Pos} {f : Loc → Tr V} (hn : notComp x = true) (ha : RefX C base l z₀ fr₀ A env L vis (eval x env) f (VR C)) :
    RefS C base l z₀ fr₀ A env L vis (exec (.Expr x pos) env) (cExpr f) := by
  intro z o ρ σ h k g d os Q X hz H q S hX Q' E' hQ hE
  refine rwg (exec_Expr env x pos (interactive_no B) (no_swap hn)) ?_
  refine wpC_bind (wpC_standAt (wpC_bind ?_))
  refine ha z o ρ hz H z σ h k g d os _ (X ρ) (Zle.refl _) q S (hX.imp id fun hX σ => hX ρ σ) _ _ (fun z₂ σ₂ v val h₂ k₂ hz₂ S₂ rv q₂ => ?_) (hE.ex hz H)
  have fin : ∀ k', Q' .next ⟨h₂, g, d, k', os⟩ := fun k' => hQ z₂ o ρ σ₂ .next .next h₂ k' (hz.trans hz₂) hz₂.t (H.mono hz₂) S₂ rfl q₂.2
  unfold dropValue
  split
  · exact wpC_pure (fin _)
  · exact wpC_bind (wpC_standAt (wpC_bind (wpC_of (wpAny_runValue (codeAny_builtin entry_let_go (show wpAny _ _ (ret .none) _ _ _ from wpAny_pure (show wpC _ _ _ _ _ _ from wpC_pure (fin _))))))))
  · exact wpC_pure (fin _)
theorem s_asg {t y : PySem.Expr} {pos : Pos} {f : Loc → Tr V} {tr : V → Loc → Tr Loc} (hn : swapsWith y (some t) pos.line env = pure false) (ha : RefX C base l z₀ fr₀ A env L vis (eval y env) f (VR C))
    (ht : RefA C base l z₀ fr₀ A env L vis (fun v => do assignStores env v (← swappedStores [t] y env) ((assignEach [t] env).map (·.2))) tr) :
    RefS C base l z₀ fr₀ A env L vis (exec (.Assign [t] y pos) env) (cAsg f tr) := by
  intro z o ρ σ h k g d os Q X hz H q S hX Q' E' hQ hE
  show wpC _ _ (do
    standAt pos
    if ← swapsWith y (some t) pos.line env then do
      evalThenUse y env fun v => assignAll v ((assignEach [t] env).map (·.2))
      pure .next
    else do
      let v ← eval y env
      assignStores env v (← swappedStores [t] y env) ((assignEach [t] env).map (·.2))) _ _ _
  refine rwg hn ?_
  refine wpC_bind (wpC_standAt (wpC_bind (wpC_pure ?_)))
  refine wpC_no ?_
  refine wpC_bind ?_
  refine ha z o ρ hz H z σ h k g d os _ (X ρ) (Zle.refl _) q S (hX.imp id fun hX σ => hX ρ σ) _ _ (fun z₂ σ₂ v val h₂ k₂ hz₂ S₂ rv q₂ => ?_) (hE.ex hz H)
  refine ht z₂ o ρ σ₂ h₂ k₂ g d os v val _ (X ρ) (hz.trans hz₂) (H.mono hz₂) rv q₂ S₂ (hX.imp id fun hX σ => hX ρ σ) Q' E' (fun z₃ o₃ ρ₃ σ₃ h₃ k₃ z1 z2 H₃ S₃ q₃ => ?_) ((hE.ex hz H).mono hz₂)
  exact hQ z₃ o₃ ρ₃ σ₃ .next .next h₃ k₃ z1 (hz₂.t.trans z2) H₃ S₃ rfl q₃
theorem s_if {t : PySem.Expr} {a b : List Stmt} {pos : Pos} {ft : Loc → Tr Bool} {fa fb : TrS} (ht : RefX C base l z₀ fr₀ A env L vis (isTrue t env (eval t env)) ft (fun u_ b v => v = b))
    (ha : RefS C base l z₀ fr₀ A env L vis (execs a env) fa) (hb : RefS C base l z₀ fr₀ A env L vis (execs b env) fb) : RefS C base l z₀ fr₀ A env L vis (exec (.If t a b pos) env) (cIf ft fa fb) := by
  intro z o ρ σ h k g d os Q X hz H q S hX Q' E' hQ hE
  refine wpC_bind (wpC_standAt (wpC_bind ?_))
  refine ht z o ρ hz H z σ h k g d os _ (X ρ) (Zle.refl _) q S (hX.imp id fun hX σ => hX ρ σ) _ _ (fun z₂ σ₂ r v h₂ k₂ hz₂ S₂ rv q₂ => ?_) (hE.ex hz H)
  subst rv
  cases v with
  | true => exact ha z₂ o ρ σ₂ h₂ k₂ g d os Q X (hz.trans hz₂) (H.mono hz₂) q₂ S₂ hX Q' E' (hQ.mono hz₂.t) (hE.mono hz₂.t)
  | false => exact hb z₂ o ρ σ₂ h₂ k₂ g d os Q X (hz.trans hz₂) (H.mono hz₂) q₂ S₂ hX Q' E' (hQ.mono hz₂.t) (hE.mono hz₂.t)
theorem s_nil : RefS C base l z₀ fr₀ A env L vis (execs [] env) (fun ρ σ Q u_ => Q .next ρ σ) := by
  intro z o ρ σ h k g d os Q X hz H q S hX Q' E' hQ hE
  exact wpC_pure (hQ z o ρ σ .next .next h k hz (Tle.refl z) H S rfl q)
theorem s_cons {s : Stmt} {r : List Stmt} {fa fb : TrS} (ha : RefS C base l z₀ fr₀ A env L vis (exec s env) fa) (hb : RefS C base l z₀ fr₀ A env L vis (execs r env) fb) :
    RefS C base l z₀ fr₀ A env L vis (execs (s :: r) env) (cSeq fa fb) := by
  intro z o ρ σ h k g d os Q X hz H q S hX Q' E' hQ hE
  rw [execs_cons]
  refine wpC_bind (ha z o ρ σ h k g d os _ X hz H q S hX _ _ (fun z₂ o₂ ρ₂ σ₂ fl f h₂ k₂ z1 z2 H₂ S₂ rf q₂ => ?_) hE)
  cases fl with
  | next =>
    have := (show f = .next from rf); subst this
    exact hb z₂ o₂ ρ₂ σ₂ h₂ k₂ g d os Q X z1 H₂ q₂ S₂ hX Q' E' (hQ.mono z2) (hE.mono z2)
  | cont =>
    have := (show f = .cont from rf); subst this
    exact wpC_pure (hQ z₂ o₂ ρ₂ σ₂ .cont .cont h₂ k₂ z1 z2 H₂ S₂ rfl q₂)
  | ret v =>
    obtain ⟨val, rfl, rv⟩ := rf
    exact wpC_pure (hQ z₂ o₂ ρ₂ σ₂ (.ret v) _ h₂ k₂ z1 z2 H₂ S₂ ⟨val, rfl, rv⟩ q₂)
theorem s_cont {pos : Pos} : RefS C base l z₀ fr₀ A env L vis (exec (.Continue pos) env) (fun ρ σ Q u_ => Q .cont ρ σ) := by
  intro z o ρ σ h k g d os Q X hz H q S hX Q' E' hQ hE
  exact wpC_bind (wpC_standAt (wpC_pure (hQ z o ρ σ .cont .cont h k hz (Tle.refl z) H S rfl q)))
theorem s_ret0 {pos : Pos} : RefS C base l z₀ fr₀ A env L vis (exec (.Return none pos) env) (fun ρ σ Q u_ => Q (.ret .none) ρ σ) := by
  intro z o ρ σ h k g d os Q X hz H q S hX Q' E' hQ hE
  show wpC _ _ (do standAt pos; (pure (Flow.ret .none) : Sem Flow)) _ _ _
  exact wpC_bind (wpC_standAt (wpC_pure (hQ z o ρ σ (.ret .none) _ h k hz (Tle.refl z) H S ⟨_, rfl, VR.none⟩ q)))
theorem s_ret {x : PySem.Expr} {pos : Pos} {f : Loc → Tr V} (ha : RefX C base l z₀ fr₀ A env L vis (eval x env) f (VR C)) : RefS C base l z₀ fr₀ A env L vis (exec (.Return (some x) pos) env) (cRet f) := by
  intro z o ρ σ h k g d os Q X hz H q S hX Q' E' hQ hE
  refine wpC_bind (wpC_standAt (wpC_bind ?_))
  refine ha z o ρ hz H z σ h k g d os _ (X ρ) (Zle.refl _) q S (hX.imp id fun hX σ => hX ρ σ) _ _ (fun z₂ σ₂ v val h₂ k₂ hz₂ S₂ rv q₂ => ?_) (hE.ex hz H)
  exact wpC_pure (hQ z₂ o ρ σ₂ (.ret v) _ h₂ k₂ (hz.trans hz₂) hz₂.t (H.mono hz₂) S₂ ⟨val, rfl, rv⟩ q₂)
end
end Mine
end
section
namespace Mine
section
variable {C : Cx} {base : Heap} {A : Around} {l : List Env} {z₀ z z' fr₀ : Fz} {env : Env} {L : Addr} {ns : Names} {vis : Vis} {mg mb : Str → Option Value} {g : Array GenState} {d : Drawn} {os : OsState}
  {Q : Fl → Loc → Store → Prop} {X : Loc → Store → Prop} {Q' : Flow → Shared → Prop} {E' : Value → Shared → Prop}
theorem s_aug (B : BlockOk env L ns vis) {i : Nat} {y : Str} {npos pos : Pos} {x : PySem.Expr} {f : Loc → Tr V} (hv : (i, y) ∈ vis) (ha : RefX C base l z₀ fr₀ A env L vis (eval x env) f (VR C)) :
    RefS C base l z₀ fr₀ A env L vis (exec (.AugAssign (.Name y npos) .Add x pos) env) (cAug i f) := by
  intro z o ρ σ h k g d os Q X hz H q S hX Q' E' hQ hE
  show wpC _ _ (do
    standAt npos
    let old ← loadName env y
    let v ← holding [old] (eval x env)
    standAt pos
    let new ← operate [old, v] (inplaceOp .Add old v)
    standAt npos
    bindName env y new
    (pure Flow.next : Sem Flow)) _ _ _
  refine foldg fun G0 fin0 => ?_
  obtain ⟨old, e, q⟩ := locP_inv q
  obtain ⟨val, h1, h2⟩ := H.seen _ hv old e
  refine fin0 ?_
  refine wpC_bind (wpC_standAt (wpC_bind (wpC_of (load_holds S B.toEnvOk h1 (wpC_bind (wpC_holding ?_))))))
  refine ha z o ρ hz H z σ h k g d os _ (X ρ) (Zle.refl _) q S (hX.imp id fun hX σ => hX ρ σ) _ _ (fun z₂ σ₂ v b h₂ k₂ hz₂ S₂ rb q₂ => ?_) (hE.ex hz H)
  refine wpC_bind (wpC_standAt (wpC_bind (wpC_operate (wpC_of (op_iadd (Q := fun v σ => Q .next (ρ.set i (some v)) σ) S₂ (h2.mono hz₂.t) rb q₂ ?_)))))
  intro z₃ σ₃ v c h₃ k₃ hz₃ S₃ rc q₃
  have hi : i < ρ.length := by
    rcases Nat.lt_or_ge i ρ.length with q | q
    · exact q
    · rw [List.getElem?_eq_none q] at e; cases e
  have hz' := hz₂.trans hz₃
  refine wpC_bind (wpC_standAt (wpC_bind (wpC_of (op_bind B (H.mono hz') (hz.trans hz') S₃ hv rc hi fun z' o' h' k' z1 z2 H' S' => ?_))))
  exact wpC_pure (hQ z' o' _ σ₃ .next .next h' k' z1 (hz'.t.trans z2) H' S' rfl q₃)
theorem s_augA (F : Facts C base mg mb) {n : String} {m : Str} {x y : PySem.Expr} {p pos : Pos} {fo f : Loc → Tr V} (hm : Str.ofString n = m) (hn : attrNames.contains n = true)
    (ha : RefX C base l z₀ fr₀ A env L vis (eval x env) fo (VR C)) (hb : RefX C base l z₀ fr₀ A env L vis (eval y env) f (VR C)) :
    RefS C base l z₀ fr₀ A env L vis (exec (.AugAssign (.Attribute x m p) .Add y pos) env) (cAugA fo n f) := by
  intro z o ρ σ h k g d os Q X hz H q S hX Q' E' hQ hE
  subst hm
  show wpC _ _ (do
    standAt pos
    let ov ← eval x env
    let new ← holding [ov] do
      standAt p.atName
      let old ← getAttr ov (Str.ofString n) true
      let v ← holding [old] (eval y env)
      standAt pos
      operate [old, v] (inplaceOp .Add old v)
    standAt p.atName
    holding [new, ov] (setAttr ov (Str.ofString n) new)
    release [new, ov] []
    (pure Flow.next : Sem Flow)) _ _ _
  have hX' := hX.imp id fun hX σ => hX ρ σ
  refine wpC_bind (wpC_standAt (wpC_bind ?_))
  refine ha z o ρ hz H z σ h k g d os _ (X ρ) (Zle.refl _) q S hX' _ _ (fun z₂ σ₂ vo a h₂ k₂ hz₂ S₂ ra q₂ => ?_) (hE.ex hz H)
  refine wpC_bind (wpC_holding (wpC_bind (wpC_standAt (wpC_bind (wpC_of (op_attr (Q := fun old σ => f ρ σ (fun v σ => wAdd old v fun v => wSetAttr σ vo n v fun σ => Q .next ρ σ) (X ρ)) F hn S₂ ra q₂ ?_))))))
  intro z₃ σ₃ old b h₃ k₃ hz₃ S₃ rb q₃
  have hz13 := hz₂.trans hz₃
  refine wpC_bind (wpC_holding ?_)
  refine hb z₃ o ρ (hz.trans hz13) (H.mono hz13) z₃ σ₃ h₃ k₃ g d os _ (X ρ) (Zle.refl _) q₃ S₃ hX' _ _ (fun z₄ σ₄ v c h₄ k₄ hz₄ S₄ rc q₄ => ?_) ((hE.ex hz H).mono hz13)
  refine wpC_bind (wpC_standAt (wpC_operate (wpC_of (op_iadd (Q := fun v σ => wSetAttr σ vo n v fun σ => Q .next ρ σ) S₄ (rb.mono hz₄.t) rc q₄ ?_))))
  intro z₅ σ₅ v e h₅ k₅ hz₅ S₅ re q₅
  have hz15 := (hz13.trans hz₄).trans hz₅
  refine wpC_bind (wpC_standAt (wpC_bind (wpC_holding (wpC_of (op_setattr F hn S₅ (ra.mono ((hz₃.trans hz₄).trans hz₅).t) re q₅ fun σ' h' k' S' q' => ?_)))))
  exact wpC_bind (wpC_release (wpC_pure (hQ z₅ o ρ σ' .next .next h' k' (hz.trans hz15) hz15.t (H.mono hz15) S' rfl q')))
theorem s_delSub {x y : PySem.Expr} {p pos : Pos} {fa fi : Loc → Tr V} (hn : notSlice y = true)
    (ha : RefX C base l z₀ fr₀ A env L vis (eval x env) fa (VR C)) (hb : RefX C base l z₀ fr₀ A env L vis (eval y env) fi (VR C)) :
    RefS C base l z₀ fr₀ A env L vis (exec (.Delete [.Subscript x y p] pos) env) (cDelSub fa fi) := by
  intro z o ρ σ h k g d os Q X hz H q S hX Q' E' hQ hE
  show wpC _ _ (standAt pos >>= fun u_ => ((do
      let ov ← eval x env
      let iv ← holding [ov] (eval y env)
      standAt p
      holding [ov, iv] (delItem ov iv)
      release [ov, iv] [] : Sem Unit) >>= fun u_ => (pure () : Sem Unit)) >>= fun u_ => (pure Flow.next : Sem Flow)) _ _ _
  have hX' := hX.imp id fun hX σ => hX ρ σ
  refine wpC_bind (wpC_standAt (wpC_bind (wpC_bind (wpC_bind ?_))))
  refine ha z o ρ hz H z σ h k g d os _ (X ρ) (Zle.refl _) q S hX' _ _ (fun z₂ σ₂ vo a h₂ k₂ hz₂ S₂ ra q₂ => ?_) (hE.ex hz H)
  refine wpC_bind (wpC_holding ?_)
  refine hb z₂ o ρ (hz.trans hz₂) (H.mono hz₂) z₂ σ₂ h₂ k₂ g d os _ (X ρ) (Zle.refl _) q₂ S₂ hX' _ _ (fun z₃ σ₃ vi i h₃ k₃ hz₃ S₃ ri q₃ => ?_) ((hE.ex hz H).mono hz₂)
  have hz13 := hz₂.trans hz₃
  refine wpC_bind (wpC_standAt (wpC_bind (wpC_holding (wpC_of (op_delsub S₃ (ra.mono hz₃.t) ri q₃ fun σ' h' k' S' q' => ?_)))))
  exact wpC_release (wpC_pure (wpC_pure (hQ z₃ o ρ σ' .next .next h' k' (hz.trans hz13) hz13.t (H.mono hz13) S' rfl q')))
theorem s_delSlice {x lo : PySem.Expr} {p' p pos : Pos} {fa fl : Loc → Tr V}
    (ha : RefX C base l z₀ fr₀ A env L vis (eval x env) fa (VR C)) (hl : RefX C base l z₀ fr₀ A env L vis (eval lo env) fl (VR C)) :
    RefS C base l z₀ fr₀ A env L vis (exec (.Delete [.Subscript x (.Slice (some lo) none none p') p] pos) env) (cDelSlice fa fl) := by
  intro z o ρ σ h k g d os Q X hz H q S hX Q' E' hQ hE
  show wpC _ _ (standAt pos >>= fun u_ => ((do
      let ov ← eval x env
      let iv ← holding [ov] (do
        let l ← eval lo env
        let u ← holding [l] (pure Value.none)
        let s ← holding [l, u] (pure Value.none)
        newFields "slice" [l, u, s])
      standAt p
      holding [ov, iv] (delItem ov iv)
      release [ov, iv] [] : Sem Unit) >>= fun u_ => (pure () : Sem Unit)) >>= fun u_ => (pure Flow.next : Sem Flow)) _ _ _
  have hX' := hX.imp id fun hX σ => hX ρ σ
  refine wpC_bind (wpC_standAt (wpC_bind (wpC_bind (wpC_bind ?_))))
  refine ha z o ρ hz H z σ h k g d os _ (X ρ) (Zle.refl _) q S hX' _ _ (fun z₂ σ₂ vo a h₂ k₂ hz₂ S₂ ra q₂ => ?_) (hE.ex hz H)
  refine wpC_bind (wpC_holding (wpC_bind ?_))
  refine hl z₂ o ρ (hz.trans hz₂) (H.mono hz₂) z₂ σ₂ h₂ k₂ g d os _ (X ρ) (Zle.refl _) q₂ S₂ hX' _ _ (fun z₃ σ₃ vi i h₃ k₃ hz₃ S₃ ri q₃ => ?_) ((hE.ex hz H).mono hz₂)
  have hz13 := hz₂.trans hz₃
  refine wpC_bind (wpC_holding (wpC_pure (wpC_bind (wpC_holding (wpC_pure ?_)))))
  refine wpC_of (wpAny_newObj_type ?_ (Nat.le_trans (show 3 ≤ 1000000 by decide) (by rw [sizeLine_eq]; decide)))
  refine wpC_bind (wpC_standAt ?_)
  obtain ⟨σ', r, q₃⟩ := q₃
  cases r with
  | ba r b lo hr hb =>
    have := (ra.mono hz₃.t).ref_inv; subst this
    refine ri.int_e fun tl => ?_
    obtain ⟨c1, c2, c3⟩ := hb
    have hc : h₃.get? r = some (baObj b.toArray) := S₃.cell r _ hr
    have kp : ∀ x ob, h₃.get? x = some ob → (h₃.push { cls := .type "slice", data := .fields #[.int lo tl, .none, .none] }).get? x = some ob := fun u_ u_ e => Heap.get?_push_of_some _ e
    refine wpC_bind (wpC_holding (delslice_C (s := ⟨_, g, d, _, os⟩) (kp _ _ hc) (Heap.IsSliceOf.new _ _ _ _) (.int _ _) c1 (by simpa using c2) (by rw [sizeLine_eq]; simp; exact Nat.le_trans (by assumption) (Nat.le_of_ble_eq_true rfl)) fun h' f1 f2 => ?_))
    refine wpC_release (wpC_pure (wpC_pure (hQ z₃ o ρ (σ₃.set r (.ba (b.take lo.toNat))) .next .next h' _ (hz.trans hz13) hz13.t (H.mono hz13) ?_ rfl q₃)))
    refine S₃.updCell hr (fun u_ u_ => nofun) (fun u_ u_ => nofun) (fun x ob hx e => (f2.2 x hx).trans (kp _ _ e)) ?_
    show h'.get? r = some (baObj _)
    rw [f1]
end
end Mine
end
section
namespace Mine
theorem bindL_skip {kindOf : Str → Option NameKind} (bs : List (Str × Value)) : ∀ (m : Str → Option Value) (n : Str), n ∉ bs.map (·.1) → bindL kindOf bs m n = m n := by
  induction bs with
  | nil => exact fun u_ u_ u_ => rfl
  | cons p r ih =>
    intro m n h
    simp only [List.map_cons, List.mem_cons, not_or] at h
    unfold bindL
    refine rwg (ih _ n h.2) ?_
    split
    · simp only [h.1, if_false]
    · rfl
theorem bindL_at {kindOf : Str → Option NameKind} (bs : List (Str × Value)) : ∀ (m : Str → Option Value) {n : Str} {v : Value}, (bs.map (·.1)).Nodup → (n, v) ∈ bs → kindOf n = some .local → bindL kindOf bs m n = some v := by
  induction bs with
  | nil => intro _ _ _ _ h; cases h
  | cons p r ih =>
    intro m n v hn h hk
    rw [List.map_cons, List.nodup_cons] at hn
    rcases List.mem_cons.mp h with e | h
    · cases e
      unfold bindL
      rw [bindL_skip r _ _ hn.1, if_pos hk]; simp
    · unfold bindL
      exact ih _ hn.2 h hk
theorem bindC_skip {kindOf : Str → Option NameKind} (bs : List (Str × Value)) : ∀ (m : Str → Option Value) (n : Str), n ∉ bs.map (·.1) → bindC kindOf bs m n = m n := by
  induction bs with
  | nil => exact fun u_ u_ u_ => rfl
  | cons p r ih =>
    intro m n h
    simp only [List.map_cons, List.mem_cons, not_or] at h
    unfold bindC
    refine rwg (ih _ n h.2) ?_
    split
    · rfl
    · simp only [h.1, if_false]
theorem bindC_at {kindOf : Str → Option NameKind} (bs : List (Str × Value)) : ∀ (m : Str → Option Value) {n : Str} {v : Value}, (bs.map (·.1)).Nodup → (n, v) ∈ bs → kindOf n = some .cell → bindC kindOf bs m n = some v := by
  induction bs with
  | nil => intro _ _ _ _ h; cases h
  | cons p r ih =>
    intro m n v hn h hk
    rw [List.map_cons, List.nodup_cons] at hn
    rcases List.mem_cons.mp h with e | h
    · cases e
      unfold bindC
      rw [bindC_skip r _ _ hn.1, if_neg (by rw [hk]; decide)]; simp
    · unfold bindC
      exact ih _ hn.2 h hk
theorem lookup_some_of_mem {α : Type} {l : List (Str × α)} {n : Str} {c : α} (h : (n, c) ∈ l) : ∃ c', l.lookup n = some c' := by
  induction l with
  | nil => cases h
  | cons p r ih =>
    refine rwg List.lookup_cons ?_
    cases hb : n == p.1 with
    | true => exact ⟨p.2, rfl⟩
    | false =>
      rcases List.mem_cons.mp h with e | h
      · cases e; simp at hb
      · exact ih h
theorem cellsFrom_acc (ns : List (Str × NameKind)) : ∀ (n : Nat) (acc : List (Str × Addr)) (p : Str × Addr), p ∈ acc → p ∈ cellsFrom n ns acc := by
  induction ns with
  | nil => exact fun u_ u_ u_ h => h
  | cons q r ih =>
    intro n acc p h
    unfold cellsFrom
    split
    · exact ih _ _ p (.tail _ h)
    · exact ih _ _ p h
theorem cellsFrom_mem (ns : List (Str × NameKind)) : ∀ (n : Nat) (acc : List (Str × Addr)) {x : Str}, (x, NameKind.cell) ∈ ns → ∃ c, (x, c) ∈ cellsFrom n ns acc := by
  induction ns with
  | nil => intro _ _ _ h; cases h
  | cons p r ih =>
    intro n acc x h
    unfold cellsFrom
    rcases List.mem_cons.mp h with e | h
    · cases e
      refine rwg (if_pos rfl) ?_
      exact ⟨n, cellsFrom_acc r _ _ _ (.head _)⟩
    · split
      · exact ih _ _ h
      · exact ih _ _ h
theorem cells_lookup {ns : List (Str × NameKind)} {n : Nat} {x : Str} (h : ns.lookup x = some .cell) : ∃ c, (cellsFrom n ns []).lookup x = some c := by
  obtain ⟨c, hc⟩ := cellsFrom_mem ns n [] (mem_of_lookup h)
  exact lookup_some_of_mem hc
section
variable {C : Cx} {base : Heap} {A : Around} {l : List Env} {z fr : Fz} {σ : Store} {h h' : Heap}
theorem Sim.freezeP {P : Addr → Prop} [DecidablePred P] (S : Sim C base z fr σ h) (hP : ∀ a, P a → (h.get? a).isSome ∧ z a = none ∧ fr a = none ∧ base.get? a = none ∧ ¬ Own σ h a) :
    Sim C base (fun a => if P a then h.get? a else z a) fr σ h ∧ Zle z (fun a => if P a then h.get? a else z a) := by
  have Z : Zle z (fun a => if P a then h.get? a else z a) := fun a o e => by
    dsimp only
    rw [if_neg fun p => by rw [(hP a p).2.1] at e; cases e]; exact e
  refine ⟨{ bas := S.bas, fz := fun b p e => ?_, cell := fun b p e => (S.cell b p e).mono Z.t fun u_ u_ x => x, off := fun b p e => ?_, offD := fun b c fs d e x => ?_, one := S.one, frs := S.frs }, Z⟩
  · split at e
    · rename_i q; exact ⟨e, (hP b q).2.2.2.1, (hP b q).2.2.1⟩
    · exact S.fz b p e
  · rw [if_neg fun q => (hP b q).2.2.2.2 (.inl ⟨p, e⟩)]; exact S.off b p e
  · rw [if_neg fun q => (hP d q).2.2.2.2 (.inr ⟨b, c, fs, e, x⟩)]; exact S.offD b c fs d e x
theorem Sim.other (S : Sim C base z fr σ h) {a : Addr} (hz : z a = none) (hf : fr a = none) (hb : base.get? a = none) (ho : ¬ Own σ h a) (k : ∀ x ob, x ≠ a → h.get? x = some ob → h'.get? x = some ob) : Sim C base z fr σ h' := by
  have ns : ∀ x ob, σ x = some ob → x ≠ a := fun x ob e q => ho (.inl ⟨ob, q ▸ e⟩)
  have nd : ∀ x c fs d, σ x = some (.inst c fs) → DictOf h x d → d ≠ a := fun x c fs d e dd q => ho (.inr ⟨x, c, fs, e, q ▸ dd⟩)
  have back : ∀ x c fs d, σ x = some (.inst c fs) → DictOf h' x d → DictOf h x d := fun x c fs d e dd => by
    obtain ⟨ob, ho⟩ := (S.cell x _ e).there
    exact dd.keep ho (k _ _ (ns x _ e) ho)
  refine { bas := fun x ob e => k _ _ (fun q => by rw [q, hb] at e; cases e) (S.bas x ob e), fz := fun x ob e => ⟨k _ _ (fun q => by rw [q, hz] at e; cases e) (S.fz x ob e).1, (S.fz x ob e).2⟩, cell := fun x o e => ?_, off := S.off,
           offD := fun x c fs d e dd => S.offD x c fs d e (back _ _ _ _ e dd), one := fun x c fs x' c' fs' d e e' dd dd' => S.one x c fs x' c' fs' d e e' (back _ _ _ _ e dd) (back _ _ _ _ e' dd'), frs := fun x ob e => ?_ }
  · have hx := S.cell x o e
    have q := ns x o e
    cases o with
    | inst c fs =>
      refine foldg fun G0 fin0 => ?_
      obtain ⟨d, es, n, h1, h2, h3⟩ := hx
      refine fin0 ?_
      exact ⟨d, es, n, k _ _ q h1, k _ _ (nd x c fs d e ⟨_, h1, rfl⟩) h2, h3⟩
    | list vs => obtain ⟨ws, n, h1, h2⟩ := hx; exact ⟨ws, n, k _ _ q h1, h2⟩
    | dict fs => obtain ⟨kvs, h1, h2⟩ := hx; exact ⟨kvs, dictOf_keep h1 fun u_ => k _ _ q, h2⟩
    | ba b => exact k _ _ q hx
  · refine foldg fun G0 fin0 => ?_
    obtain ⟨⟨sl, e1⟩, e2, e3⟩ := S.frs x ob e
    refine fin0 ?_
    exact ⟨⟨sl, k _ _ (fun q => by rw [q, hf] at e; cases e) e1⟩, e2, e3⟩
end
end Mine
end
section
namespace Mine
section
variable {C : Cx} {base B : Heap} {A : Around} {l : List Env} {z z' fr fr' : Fz} {σ σ' : Store} {h h' : Heap} {e : Value} {env : Env} {L : Addr} {o : Obj}
theorem Sim0.fewer (S : Sim0 C base z fr σ B) (lf : ∀ a o, fr' a = some o → ∃ o', fr a = some o') (lz : Zle z' z) (t : Tle z z') (ls : Less σ' σ) : Sim0 C base z' fr' σ' B := by
  have nf : ∀ a, fr a = none → fr' a = none := fun a e => by
    cases q : fr' a with
    | none => rfl
    | some o => obtain ⟨o', x⟩ := lf a o q; rw [e] at x; cases x
  have nz : ∀ a, z a = none → z' a = none := fun a e => by
    cases q : z' a with
    | none => rfl
    | some o => have := lz a o q; rw [e] at this; cases this
  have nσ : ∀ a, σ a = none → σ' a = none := fun a e => by
    cases q : σ' a with
    | none => rfl
    | some o => have := ls a o q; rw [e] at this; cases this
  exact { bas := S.bas, fz := fun a o e => ⟨(S.fz a o (lz a o e)).1, (S.fz a o (lz a o e)).2.1, nf _ (S.fz a o (lz a o e)).2.2⟩, cell := fun a o e => (S.cell a o (ls _ _ e)).mono t fun u_ u_ x => x,
          off := fun a o e => ⟨nz _ (S.off a o (ls _ _ e)).1, nf _ (S.off a o (ls _ _ e)).2.1, (S.off a o (ls _ _ e)).2.2⟩,
          offD := fun a c fs d e dd => ⟨nz _ (S.offD a c fs d (ls _ _ e) dd).1, nf _ (S.offD a c fs d (ls _ _ e) dd).2.1, (S.offD a c fs d (ls _ _ e) dd).2.2.1, nσ _ (S.offD a c fs d (ls _ _ e) dd).2.2.2⟩,
          one := fun a c fs a' c' fs' d e e' => S.one a c fs a' c' fs' d (ls _ _ e) (ls _ _ e') }
theorem Frs.up (x : Frs base fr h) (u : h.UpToSlots h') : Frs base fr h' := fun a o e => by
  refine foldg fun G0 fin0 => ?_
  obtain ⟨⟨sl, e1⟩, e2, e3⟩ := x a o e
  obtain ⟨sl', e4⟩ := u a _ e1 e2
  refine fin0 ?_
  exact ⟨⟨sl', e4⟩, e2, e3⟩
theorem Frs.fewer (x : Frs base fr h) (lf : ∀ a o, fr' a = some o → fr a = some o) : Frs base fr' h := fun a o e => x a o (lf _ _ e)
theorem leave_fly {M : Model} {s : Shared} {Q : Unit → Shared → Prop} {E : Value → Shared → Prop} (hA : A.frames = some (env :: l)) (hf : env.frame = some L) (hL : fr L = none) (fl : Fly C base (env :: l) z (fr.set L o) σ e s.heap)
    (hQ : ∀ h', Fly C base l z fr σ e h' → Q () { s with heap := h' }) : wpAny M A (leaving env e) Q E s := by
  refine foldg fun G0 fin0 => ?_
  obtain ⟨a, B, rfl, S, Fr', x⟩ := fl
  refine fin0 ?_
  have lf : ∀ b ob, fr b = some ob → (fr.set L o) b = some ob := fun b ob q => by rw [Fz.set_ne _ _ (fun e => by rw [e, hL] at q; cases q)]; exact q
  have S' : Sim0 C base z fr σ B := S.fewer (fun b ob q => ⟨_, lf b ob q⟩) (Zle.refl z) (Tle.refl z) fun u_ u_ e => e
  have fin : ∀ h', Noted B (env :: l) a (.ref C.excA) .none h' → s.heap.UpToSlots h' → Q () { s with heap := h' } := fun h' y u => by
    refine foldg fun G0 fin0 => ?_
    obtain ⟨k1, k2, ⟨_, _, k3⟩, k4⟩ := y
    refine fin0 ?_
    exact hQ h' ⟨a, B, rfl, S', (Fr'.fewer lf).up u, .inl ⟨k1, k2, k3, k4⟩⟩
  have land : ∀ h₁, Noted B (env :: l) a (.ref C.excA) (rawInt L) h₁ → s.heap.UpToSlots h₁ → wpAny M A (setFlight (.ref a) none) Q E { s with heap := h₁ } := fun h₁ y u =>
    flight2 (s := { s with heap := h₁ }) y fun h' y' u' => fin h' y' (u.trans u')
  unfold leaving
  refine foldg fun G0 fin0 => ?_
  rcases x with x | ⟨L', env', l', e1, e2, x⟩ | ⟨x1, x2, x3, oe, vs, x4, x5, x6, x7, x8⟩
  · refine fin0 ?_
    exact wpAny_bind (note2 hA hf x fun h₁ y u => land h₁ y u)
  · refine fin0 ?_
    cases e1
    rw [hf] at e2; cases e2
    exact wpAny_bind (note2_again hf x (land s.heap x (Heap.UpToSlots.refl _)))
  · refine fin0 ?_
    exact wpAny_bind (note2_new hA hf x3 x4 x1 x2 x6 x7 x8 fun h₁ y u => land h₁ (by rw [← x5]; exact y) u)
end
end Mine
end
section
namespace Mine
open Classical in
noncomputable def zCut (z₁ z₃ : Fz) : Fz := fun a => if (z₁ a).isSome ∨ (∃ o, z₃ a = some o ∧ isSeqCls o) then z₃ a else none
theorem zCut_le {z₁ z₃ : Fz} : Zle (zCut z₁ z₃) z₃ := fun a o e => by
  unfold zCut at e
  split at e
  · exact e
  · cases e
theorem zCut_t {z₁ z₃ : Fz} : Tle z₃ (zCut z₁ z₃) := fun a o e w => (if_pos (.inr ⟨o, e, w⟩)).trans e
theorem zCut_from {z₁ z₃ : Fz} (z1 : Zle z₁ z₃) : Zle z₁ (zCut z₁ z₃) := fun a o e => (if_pos (.inl (by rw [e]; rfl))).trans (z1 _ _ e)
section
variable {C : Cx} {base : Heap} {A : Around} {l : List Env} {z fr : Fz} {mg mb : Str → Option Value}
open Classical in
theorem run_def (F : Facts C base mg mb) (a : AOk A l fr) (hroom : A.depth < recursionLimit) {f : Addr} {oc dV kV doc pm cdv ct : Value} {od an : Option Addr} {osl : Array (Option Value)} {name qual : Str} {prms : Arguments}
    {stmts : List Stmt} {scope : Scope} (ho : C.K.lookup f = some ⟨oc, od, .func (fnOf name qual prms stmts scope dV kV doc pm an cdv ct), osl⟩) (hcd : codeIn C.K cdv qual = true) (hk : scope.kind = .function)
    (hco : scope.isCoroutine = false) (hgen : scope.isGenerator = false) {vis : Vis} (hkinds : ∀ p ∈ vis, scope.names.lookup p.2 = some .local ∨ scope.names.lookup p.2 = some .cell)
    (hfst : ∀ p ∈ vis, ∀ q ∈ vis, p.1 = q.1 → p = q) (hsnd : ∀ p ∈ vis, ∀ q ∈ vis, p.2 = q.2 → p = q) {args : List V} {vals0 vals : List Value} {names : List Str} {nl : Nat}
    (hnames : names.Nodup) (hparam : ∀ i n, names[i]? = some n → (i, n) ∈ vis) (hlen : names.length = args.length)
    (hbind : ∀ s : Shared, C.K.In s.heap → BindsTo s (fnOf name qual prms stmts scope dV kV doc pm an cdv ct) ⟨vals0, []⟩ (names.zip vals)) (rv : VRs C z args vals) {tr : TrS}
    (body : ∀ z₁ env L o, Zle z z₁ → BlockOk env L scope.names vis → env.frame = some L → fr L = none → AOk (A.deeper env) (env :: l) (fr.set L o) → RefS C base (env :: l) z₁ fr (A.deeper env) env L vis (execs stmts env) tr) :
    CSpec C base l z fr A (.call (.ref f) ⟨vals0, []⟩) (fun σ Q X => tr (args.map some ++ List.replicate nl none) σ (fun fl u_ σ => wRet fl σ Q) fun u_ σ => wLess σ X) := by
  intro z₁ σ h k g d os Q X hz q S hX R hQ hE
  have XK : C.K.In h := F.inn.keeps S.bas
  have ln := rv.length
  have memN : ∀ x ∈ names.zip vals, ∃ i, (i, x.1) ∈ vis := fun x hx => by
    obtain ⟨i, hi, e⟩ := List.getElem_of_mem (List.of_mem_zip hx).1
    exact ⟨i, hparam i _ (by rw [List.getElem?_eq_getElem hi, e])⟩
  refine codeC_call_function (s := ⟨h, g, d, k, os⟩) hroom (XK _ _ ho) rfl hco hgen rfl (codeRec_of XK hcd) (hbind _ XK _ _ _ _ ?_)
  refine wpAny_newFunctionEnv_cells hk (fun x hx => ?_) fun env he s' x => ?_
  · obtain ⟨i, hi⟩ := memN x hx
    rcases hkinds _ hi with hl | hl
    · exact .inl hl
    · obtain ⟨c, hc⟩ := cells_lookup (n := h.objs.size + 1) hl
      exact .inr ⟨hl, by show (List.lookup _ _).isSome = true; rw [hc]; rfl⟩
  obtain ⟨h', tk, e⟩ := x.toInCall.same
  subst e
  have kp : ∀ b o, h.get? b = some o → h'.get? b = some o := x.toInCall.keep
  refine ⟨F.lim.keeps fun b o e => kp b o (S.bas b o e), codeC_func ?_⟩
  subst he
  obtain ⟨oL, es, n, g1, g2, g3, g4⟩ := x.toInCall.ns
  have L0 : h.get? h.objs.size = none := get_size h
  have S1 : Sim C base z₁ (fr.set h.objs.size oL) σ h' := S.newFr L0 kp g1 fun vs q => by rw [g2] at q; cases q
  have frL : fr h.objs.size = none := (S.new_off L0).2.1
  generalize hE0 : newEnv scope h.objs.size mainGlobals (cellsFrom (h.objs.size + 1) scope.names []) (qual ++ ".<locals>.") (some f) cdv none builtinsNs = env at x g1 g4 ⊢
  have e1 : env.locals = h.objs.size := by rw [← hE0]; rfl
  have e2 : env.scope = scope := by rw [← hE0]; rfl
  have e3 : env.cells = cellsFrom (h.objs.size + 1) scope.names [] := by rw [← hE0]; rfl
  have e4 : env.frame = some h.objs.size := by rw [← hE0]; rfl
  have e5 : env.globals = mainGlobals := by rw [← hE0]; rfl
  have e6 : env.builtins = builtinsNs := by rw [← hE0]; rfl
  have kindE : ∀ x, env.kindOf x = scope.names.lookup x := fun x => by unfold Env.kindOf; rw [e2]
  have hP : ∀ c, (∃ n, env.cells.lookup n = some c) → (h'.get? c).isSome ∧ z₁ c = none ∧ (fr.set h.objs.size oL) c = none ∧ base.get? c = none ∧ ¬ Own σ h' c := by
    rintro c ⟨n, hc⟩
    obtain ⟨o, ho, _⟩ := x.cell n c hc
    have lt : h.objs.size < c := by have := x.above n c (mem_of_lookup hc); rwa [e1] at this
    have hc0 : h.get? c = none := by
      cases q : h.get? c with
      | none => rfl
      | some o => exact absurd (Heap.lt_size q) (Nat.not_lt.mpr (Nat.le_of_lt lt))
    obtain ⟨nz, nf, nb, ns, no⟩ := S.new_off hc0
    refine ⟨by rw [show h'.get? c = some o from ho]; rfl, nz, (Fz.set_ne _ _ (Nat.ne_of_gt lt)).trans nf, nb, ?_⟩
    rintro (⟨o, e⟩ | ⟨b, c', fs, e, dd⟩)
    · rw [ns] at e; cases e
    · obtain ⟨ob, ho⟩ := (S.cell b _ e).there
      exact no (.inr ⟨b, c', fs, e, dd.keep ho (kp _ _ ho)⟩)
  obtain ⟨S2, Z2⟩ := S1.freezeP (P := fun c => ∃ n, env.cells.lookup n = some c) hP
  generalize hz2 : (fun a => if ∃ n, env.cells.lookup n = some a then h'.get? a else z₁ a) = z₂ at S2 Z2
  have atC : ∀ n c, env.cells.lookup n = some c → z₂ c = h'.get? c := fun n c hc => by rw [← hz2]; exact if_pos ⟨n, hc⟩
  have BO : BlockOk env h.objs.size scope.names vis := ⟨⟨by rw [e2]; exact hk, by rw [e2], e5, e6⟩, e1, hkinds, hfst, hsnd⟩
  have zipNames : ((names.zip vals).map (·.1)).Nodup := by
    rw [List.map_fst_zip (by rw [ln]; exact Nat.le_of_eq hlen)]; exact hnames
  have H : Here C z₁ z₂ fr env h.objs.size (args.map some ++ List.replicate nl none) vis oL := by
    refine ⟨⟨es, n, g2, g3⟩, fun p hp v hv => ?_, fun y hy => ?_, fun x' y' c h1 h2 => ?_⟩
    · have hlt : p.1 < args.length := by
        rcases Nat.lt_or_ge p.1 args.length with q | q
        · exact q
        · rw [List.getElem?_append_right (by simpa using q)] at hv
          have := List.mem_of_getElem? hv
          simp at this
      rw [List.getElem?_append_left (by simpa using hlt), List.getElem?_map] at hv
      obtain ⟨v', hv1, hv2⟩ := Option.map_eq_some_iff.mp hv
      cases hv2
      obtain ⟨w, hw, rw'⟩ := rv.get hv1
      have hn : names[p.1]? = some names[p.1] := List.getElem?_eq_getElem (by omega)
      have hpn := hparam _ _ hn
      have pe := hfst p hp _ hpn rfl
      have hmem : (p.2, w) ∈ names.zip vals := by
        have : (names.zip vals)[p.1]? = some (names[p.1], w) := by rw [List.getElem?_zip_eq_some]; exact ⟨hn, hw⟩
        have := List.mem_of_getElem? this
        rwa [show names[p.1] = p.2 from (congrArg Prod.snd pe).symm] at this
      refine ⟨w, ?_, rw'.mono (hz.trans Z2).t⟩
      rcases hkinds p hp with hl | hl
      · refine .inl ⟨(kindE _).trans hl, oL, es, n, by rw [e1]; exact Fz.set_self .., g2, g3, ?_⟩
        rw [g4]; exact bindL_at _ _ zipNames hmem ((kindE _).trans hl)
      · obtain ⟨c, hc⟩ := cells_lookup (n := h.objs.size + 1) hl
        rw [← e3] at hc
        obtain ⟨o, ho, hd⟩ := x.cell _ _ hc
        refine .inr ⟨(kindE _).trans hl, c, o, hc, (atC _ _ hc).trans ho, ?_⟩
        rw [hd, bindC_at _ _ zipNames hmem ((kindE _).trans hl)]
    · rw [kindE] at hy
      obtain ⟨c, hc⟩ := cells_lookup (n := h.objs.size + 1) hy
      rw [← e3] at hc
      obtain ⟨o, ho, hd⟩ := x.cell _ _ hc
      exact ⟨c, _, o, hc, (atC _ _ hc).trans ho, hd, (hP c ⟨_, hc⟩).2.1⟩
    · exact name_of_addr x.apart (mem_of_lookup h1) (mem_of_lookup h2)
  have A' : AOk (A.deeper env) (env :: l) (fr.set h.objs.size oL) := by
    refine ⟨by show A.frames.map (env :: ·) = _; rw [a.frames]; rfl, fun e' he' => ?_⟩
    rcases List.mem_cons.mp he' with rfl | he'
    · exact ⟨by rw [e2, hk]; decide, h.objs.size, e4, by rw [Fz.set_self]; rfl⟩
    · obtain ⟨k1, L', k2, k3⟩ := a.there e' he'
      refine ⟨k1, L', k2, ?_⟩
      rw [Fz.set_ne _ _ (fun q => by rw [q, frL] at k3; cases k3)]; exact k3
  refine body z₁ env h.objs.size oL hz BO e4 frL A' z₂ oL _ σ h' tk g d os _ _ Z2 H q S2 (hX.imp id fun hX ρ σ => ?_) _ _ ?_ ?_
  · rintro ⟨σ', _, x⟩; exact hX _ x
  · intro z₃ o₃ ρ₃ σ₃ fl fv h₃ k₃ z1 z2 H₃ S₃ rf q₃
    -- the frame and what was frozen within go
    have l1 := zCut_le (z₁ := z₁) (z₃ := z₃)
    have l2 := zCut_t (z₁ := z₁) (z₃ := z₃)
    have l3 := zCut_from z1
    have S₄ : Sim C base (zCut z₁ z₃) fr σ₃ h₃ := (S₃.lessZ l1 l2).lessFr fun a o e => ⟨o, by rw [Fz.set_ne _ _ (fun q => by rw [q, frL] at e; cases e)]; exact e, o.slots, rfl⟩
    cases fl with
    | next =>
      have := (show fv = .next from rf); subst this
      obtain ⟨σ', w1, w2⟩ := q₃
      exact hQ (zCut z₁ z₃) σ' .none .none h₃ k₃ l3 (S₄.less w1) VR.none w2
    | cont => exact q₃.elim
    | ret v =>
      obtain ⟨val, rfl, rval⟩ := rf
      obtain ⟨σ', w1, w2⟩ := q₃
      exact hQ (zCut z₁ z₃) σ' v val h₃ k₃ l3 (S₄.less w1) (rval.mono l2) w2
  · intro z₃ o₃ ρ₃ σ₃ e h₃ k₃ z1 z2 H₃ fl q₃
    obtain ⟨σ', w1, w2⟩ := q₃
    refine wpC_of (leave_fly (s := ⟨h₃, g, d, k₃, os⟩) A'.frames e4 frL fl fun h₄ fl' => ?_)
    have l1 := zCut_le (z₁ := z₁) (z₃ := z₃)
    have l2 := zCut_t (z₁ := z₁) (z₃ := z₃)
    have l3 := zCut_from z1
    obtain ⟨a', B, x1, x2, x3, x4⟩ := fl'
    exact hE (zCut z₁ z₃) σ' e h₄ k₃ l3 ⟨a', B, x1, x2.fewer (fun b o e => ⟨o, e⟩) l1 l2 w1, x3, x4⟩ w2
end
end Mine
end
section
namespace Mine
noncomputable def FlyH (C : Cx) (base : Heap) (l : List Env) (z fr : Fz) (σ : Store) (L : Addr) (e : Value) (h : Heap) : Prop :=
  ∃ a B, e = .ref a ∧ Sim0 C base z fr σ B ∧ Frs base fr h ∧ Noted B l a (.ref C.excA) (rawInt L) h
section
variable {C : Cx} {base B : Heap} {A : Around} {l : List Env} {z z' fr fr' : Fz} {σ σ' : Store} {h h' : Heap} {e : Value} {env : Env} {L : Addr} {o : Obj}
theorem FlyH.fly (hf : env.frame = some L) (x : FlyH C base (env :: l) z fr σ L e h) : Fly C base (env :: l) z fr σ e h := by
  refine foldg fun G0 fin0 => ?_
  obtain ⟨a, B, h1, h2, h3, h4⟩ := x
  refine fin0 ?_
  exact ⟨a, B, h1, h2, h3, .inr (.inl ⟨L, env, l, rfl, hf, h4⟩)⟩
section
variable {M : Model} {s : Shared} {Q : Unit → Shared → Prop} {E : Value → Shared → Prop}
theorem note_fly (hA : A.frames = some (env :: l)) (hf : env.frame = some L) (fl : Fly C base (env :: l) z fr σ e s.heap) (hQ : ∀ h', FlyH C base (env :: l) z fr σ L e h' → Q () { s with heap := h' }) : wpAny M A (noteFrame e env) Q E s := by
  refine foldg fun G0 fin0 => ?_
  obtain ⟨a, B, rfl, S, Fr', x⟩ := fl
  refine fin0 ?_
  refine foldg fun G0 fin0 => ?_
  rcases x with x | ⟨L', env', l', e1, e2, x⟩ | ⟨x1, x2, x3, oe, vs, x4, x5, x6, x7, x8⟩
  · refine fin0 ?_
    exact note2 hA hf x fun h' y u => hQ h' ⟨a, B, rfl, S, Fr'.up u, y⟩
  · refine fin0 ?_
    cases e1
    rw [hf] at e2; cases e2
    exact note2_again hf x (hQ s.heap ⟨a, B, rfl, S, Fr', x⟩)
  · refine fin0 ?_
    exact note2_new hA hf x3 x4 x1 x2 x6 x7 x8 fun h' y u => hQ h' ⟨a, B, rfl, S, Fr'.up u, by rw [← x5]; exact y⟩
theorem back_fly {tag : String} (hf : env.frame = some L) (fl : FlyH C base (env :: l) z fr σ L e s.heap) (hQ : ∀ h', FlyH C base (env :: l) z fr σ L e h' → Q () { s with heap := h' }) :
    wpAny M A (do
      if (← field e 1) == .none then unsupported tag
      setFlight e env.frame) Q E s := by
  refine foldg fun G0 fin0 => ?_
  obtain ⟨a, B, rfl, S, Fr', x⟩ := fl
  have x' := x
  obtain ⟨_, _, _, T, oe, vs, oT, ts, h1, h2, h3, h4, _⟩ := x'
  refine fin0 ?_
  refine wpAny_bind (wpAny_field h1 h3 h4 ?_)
  refine wpAny_neg (show ¬ ((Value.ref T == Value.none) = true) from by simp) ?_
  refine rwg hf ?_
  exact flight2 (x := some L) x fun h' y u => hQ h' ⟨a, B, rfl, S, Fr'.up u, y⟩
end
theorem mark_none (A : Around) : A.mark none = A := by cases A; rfl
end
end Mine
end
section
namespace Mine
noncomputable def Off (own : Addr → Prop) (z z' : Fz) : Prop := ∀ a o, ¬own a → z a = some o → z' a = some o
structure IterOk (C : Cx) (base : Heap) (A : Around) (it : Addr) (zi : Fz) (ok : Store → Prop) (vs : List V) (target : PySem.Expr) (own : Addr → Prop) (P : Nat → Fz → Prop) (P' : Nat → Value → Fz → Prop) : Prop where
  nseq : ∀ i z a o, P i z → own a → z a = some o → ¬isSeqCls o ∧ ∀ v, o.data ≠ .cell v
  nseq' : ∀ i val z a o, P' i val z → own a → z a = some o → ¬isSeqCls o ∧ ∀ v, o.data ≠ .cell v
  there : ∀ i z a, P i z → own a → z a ≠ none
  loc : ∀ i z z', P i z → (∀ a, own a → z' a = z a) → P i z'
  step : ∀ i v z fr σ h g d k os, vs[i]? = some v → ok σ → Tle zi z → P i z → Sim C base z fr σ h → ∀ (Q : Option Value → Shared → Prop) (E : Value → Shared → Prop),
    (∀ z' val h' k', P' (i + 1) val z' → Off own z z' → Sim C base z' fr σ h' → VR C z' v val → Q (some val) ⟨h', g, d, k', os⟩) → wpAny (model C.prog C.w) A (pyNext (.ref it)) Q E ⟨h, g, d, k, os⟩
  stop : ∀ z fr σ h g d k os, ok σ → Tle zi z → P vs.length z → Sim C base z fr σ h → ∀ (Q : Option Value → Shared → Prop) (E : Value → Shared → Prop),
    (∀ z' h' k', Off own z z' → Sim C base z' fr σ h' → Q none ⟨h', g, d, k', os⟩) → wpAny (model C.prog C.w) A (pyNext (.ref it)) Q E ⟨h, g, d, k, os⟩
  go : ∀ val i z fr σ h g d k os, P' i val z → Sim C base z fr σ h → ∀ (Q : Unit → Shared → Prop) (E : Value → Shared → Prop),
    (∀ z' h' k', P i z' → Off own z z' → Sim C base z' fr σ h' → Q () ⟨h', g, d, k', os⟩) → wpAny (model C.prog C.w) A (letOwnedTupleGo target (.ref it) val) Q E ⟨h, g, d, k, os⟩
theorem Off.trans {own : Addr → Prop} {a b c : Fz} (x : Off own a b) (y : Off own b c) : Off own a c := fun p o h e => y p o h (x p o h e)
theorem Off.tle {own : Addr → Prop} {z z' : Fz} (x : Off own z z') (n : ∀ a o, own a → z a = some o → ¬isSeqCls o) : Tle z z' := fun a o e w => x a o (fun q => n a o q e w) e
section
variable {C : Cx} {base : Heap} {A : Around} {l : List Env} {z₀ z fr₀ : Fz} {env : Env} {L : Addr} {ns : Names} {vis : Vis} {g : Array GenState} {d : Drawn} {os : OsState}
theorem block_nil {R : Result → Shared → Prop} {s : Shared} (h : R (.ok .next) s) : codeC (model C.prog C.w) A (.block [] env) R s := by
  refine codeC_of_tree trivial ?_
  exact wpC_bind (wpC_onRaise (wpC_pure (wpC_pure h)))
theorem Here.off {own : Addr → Prop} {z' : Fz} {ρ : Loc} {o : Obj} (H : Here C z₀ z fr₀ env L ρ vis o) (x : Off own z z') (n : ∀ a o, own a → z a = some o → ¬isSeqCls o ∧ ∀ v, o.data ≠ .cell v) : Here C z₀ z' fr₀ env L ρ vis o := by
  have T : Tle z z' := x.tle fun a o h e => (n a o h e).1
  refine ⟨H.dat, fun p hp v hv => ?_, fun y hy => ?_, H.inj⟩
  · refine foldg fun G0 fin0 => ?_
    obtain ⟨val, r1, r2⟩ := H.seen p hp v hv
    refine fin0 ?_
    refine ⟨val, ?_, r2.mono T⟩
    refine foldg fun G0 fin0 => ?_
    rcases r1 with r1 | ⟨r1, c, oc, r3, r4, r5⟩
    · refine fin0 ?_
      exact .inl r1
    · refine fin0 ?_
      exact .inr ⟨r1, c, oc, r3, x c oc (fun q => (n c oc q r4).2 _ r5) r4, r5⟩
  · refine foldg fun G0 fin0 => ?_
    obtain ⟨c, v, oc, r1, r2, r3, r4⟩ := H.cell y hy
    refine fin0 ?_
    exact ⟨c, v, oc, r1, x c oc (fun q => (n c oc q r2).2 _ r3) r2, r3, r4⟩
open Classical in
theorem loop_C (hA : A.frames = some (env :: l)) (hf : env.frame = some L) {it : Addr} {zi : Fz} {ok : Store → Prop} {vs : List V} {own : Addr → Prop} {P : Nat → Fz → Prop} {P' : Nat → Value → Fz → Prop} {target : PySem.Expr} (W : IterOk C base A it zi ok vs target own P P') {body : List Stmt}
    {ft : V → Loc → Tr Loc} {fb : TrS} (ht : ∀ z₀, RefT C base (env :: l) z₀ fr₀ A env L vis (assign target env) ft) (hb : ∀ z₀, RefS C base (env :: l) z₀ fr₀ A env L vis (execs body env) fb) :
    ∀ (n i : Nat) (z : Fz) (o : Obj) (ρ : Loc) (σ : Store) (h : Heap) (k : Tok) (Q : Fl → Loc → Store → Prop) (X : Loc → Store → Prop), n = vs.length - i → i ≤ vs.length → Zle z₀ z → (∀ a, own a → z₀ a = none) → Tle zi z → P i z →
      Here C z₀ z fr₀ env L ρ vis o → Sim C base z (fr₀.set L o) σ h → (A.handled = none ∨ ∀ ρ σ, ¬ X ρ σ) →
      wLoop ok (fun v ρ σ Q X => ft v ρ σ (fun ρ σ => fb ρ σ Q X) noX) (vs.drop i) ρ σ Q X → ∀ (R : Result → Shared → Prop),
      PostF C base z₀ fr₀ env L vis g d os z Q (fun f s' => R (.ok f) s') →
      (∀ z' o' ρ' σ' e h' k', Zle z₀ z' → Tle z z' → Here C z₀ z' fr₀ env L ρ' vis o' → FlyH C base (env :: l) z' (fr₀.set L o') σ' L e h' → X ρ' σ' → R (.error e) ⟨h', g, d, k', os⟩) →
      codeC (model C.prog C.w) A (.forLoop target (.ref it) body [] env) R ⟨h, g, d, k, os⟩ := by
  intro n
  induction n with
  | zero =>
    intro i z o ρ σ h k Q X hn hi hz hit hzi hP H S hX q R hQ hE
    have e : vs.drop i = [] := List.drop_eq_nil_of_le (Nat.le_of_sub_eq_zero (Eq.symm hn))
    rw [e] at q
    have ei : i = vs.length := Nat.le_antisymm hi (Nat.le_of_sub_eq_zero (Eq.symm hn))
    subst ei
    refine codeC_of_tree trivial ?_
    refine rwg (Around.under_of_weight rfl) ?_
    refine wpC_onRaise ?_
    show wpC _ _ (forTurn target (.ref it) body [] env) _ _ _
    unfold forTurn
    refine wpC_bind (wpC_standAt (wpC_bind (wpC_onRaise (wpC_of (W.stop z _ σ h g d k os q.1 hzi hP S _ _ fun z' h' k' off S' => ?_)))))
    refine wpC_pure ⟨rfl, block_nil ?_⟩
    have ns := fun a o => W.nseq _ z a o hP
    have Z : Zle z₀ z' := fun a ob e => off a ob (fun q => by rw [hit a q] at e; cases e) (hz _ _ e)
    exact hQ _ o ρ σ .next .next h' k' Z (off.tle fun a o h e => (ns a o h e).1) (H.off off ns) S' rfl q.2
  | succ n ih =>
    intro i z o ρ σ h k Q X hn hi hz hit hzi hP H S hX q R hQ hE
    have hlt : i < vs.length := Nat.sub_pos_iff_lt.mp (hn ▸ Nat.succ_pos n)
    have e : vs.drop i = vs[i] :: vs.drop (i + 1) := List.drop_eq_getElem_cons hlt
    rw [e] at q
    obtain ⟨q0, q⟩ := q
    refine codeC_of_tree trivial ?_
    refine rwg (Around.under_of_weight rfl) ?_
    refine wpC_onRaise ?_
    show wpC _ _ (forTurn target (.ref it) body [] env) _ _ _
    unfold forTurn
    refine wpC_bind (wpC_standAt (wpC_bind (wpC_onRaise (wpC_of (W.step i vs[i] z _ σ h g d k os (List.getElem?_eq_getElem hlt) q0 hzi hP S _ _ fun z' val h' k' hP' off S' rv => ?_)))))
    have ns := fun a o => W.nseq _ z a o hP
    have ns' := fun a o => W.nseq' _ _ z' a o hP'
    have T : Tle z z' := off.tle fun a o h e => (ns a o h e).1
    refine wpC_bind (wpC_of (W.go val (i + 1) z' _ σ h' g d k' os hP' S' _ _ fun z'' h'' k'' hP'' off' S'' => ?_))
    have ns'' := fun a o => W.nseq _ z'' a o hP''
    have T' : Tle z' z'' := off'.tle fun a o h e => (ns' a o h e).1
    have H₂ : Here C z₀ z'' fr₀ env L ρ vis o := (H.off off ns).off off' ns'
    -- what is pinned in the body: the iterator too
    let z₁ : Fz := fun a => if own a then z'' a else z₀ a
    have at1 : ∀ a, own a → z₁ a = z'' a := fun a q => if_pos q
    have at0 : ∀ a, ¬own a → z₁ a = z₀ a := fun a q => if_neg q
    have Z : Zle z₁ z'' := fun a ob e => by
      by_cases q : own a
      · rw [at1 a q] at e; exact e
      · rw [at0 a q] at e; exact off' _ _ q (off _ _ q (hz _ _ e))
    have H'' : Here C z₁ z'' fr₀ env L ρ vis o := by
      refine ⟨H₂.dat, H₂.seen, fun x hx => ?_, H₂.inj⟩
      refine foldg fun G0 fin0 => ?_
      obtain ⟨c, v, oc, r1, r2, r3, r4⟩ := H₂.cell x hx
      refine fin0 ?_
      exact ⟨c, v, oc, r1, r2, r3, by rw [at0 c fun q => (ns'' c oc q r2).2 _ r3]; exact r4⟩
    have back : ∀ z₂ o₁ ρ₁, Zle z₁ z₂ → Here C z₁ z₂ fr₀ env L ρ₁ vis o₁ → Zle z₀ z₂ ∧ Here C z₀ z₂ fr₀ env L ρ₁ vis o₁ := fun z₂ o₁ ρ₁ hz₁ H₁ => by
      refine ⟨fun a ob e => hz₁ _ _ (by rw [at0 a fun q => by rw [hit a q] at e; cases e]; exact e), H₁.dat, H₁.seen, fun x hx => ?_, H₁.inj⟩
      refine foldg fun G0 fin0 => ?_
      obtain ⟨c, v, oc, r1, r2, r3, r4⟩ := H₁.cell x hx
      refine fin0 ?_
      refine ⟨c, v, oc, r1, r2, r3, ?_⟩
      by_cases q : own c
      · exact hit c q
      · rwa [at0 c q] at r4
    have keepP : ∀ z₂, Zle z₁ z₂ → P (i + 1) z₂ ∨ ∃ a, own a ∧ z'' a = none := fun z₂ hz₂ => by
      by_cases q : ∃ a, own a ∧ z'' a = none
      · exact .inr q
      · refine .inl (W.loc _ _ _ hP'' fun a ha => ?_)
        cases r : z'' a with
        | none => exact absurd ⟨a, ha, r⟩ q
        | some ob => exact hz₂ _ _ (by rw [at1 a ha]; exact r)
    refine wpC_bind (ht z₁ z'' o ρ σ h'' k'' g d os vs[i] val _ noX Z H'' (rv.mono T') q S'' (.inr fun u_ x => x) _ _ (fun z₃ o₁ ρ₁ σ₁ h₁ k₁ z1 z2 H₁ S₁ q₁ => ?_) (fun u_ u_ u_ u_ u_ u_ u_ x => x.elim))
    refine wpC_bind (hb z₁ z₃ o₁ ρ₁ σ₁ h₁ k₁ g d os _ X z1 H₁ q₁ S₁ hX _ _ (fun z₂ o₂ ρ₂ σ₂ fl f h₂ k₂ z3 z4 H₂ S₂ rf q₂ => ?_) (fun z₂ o₂ ρ₂ σ₂ e h₂ k₂ z3 z4 H₂ fl q₂ => ?_))
    · obtain ⟨b1, b2⟩ := back z₂ o₂ ρ₂ z3 H₂
      have T2 : Tle z z₂ := (T.trans T').trans (z2.trans z4)
      have nextTurn : wLoop ok (fun v ρ σ Q X => ft v ρ σ (fun ρ σ => fb ρ σ Q X) noX) (vs.drop (i + 1)) ρ₂ σ₂ Q X → codeC (model C.prog C.w) A (.forLoop target (.ref it) body [] env) R ⟨h₂, g, d, k₂, os⟩ := fun q₂ =>
        ih (i + 1) z₂ o₂ ρ₂ σ₂ h₂ k₂ Q X (by rw [← Nat.sub_sub, ← hn]; rfl) (by exact (by assumption)) b1 hit (hzi.trans T2) (by
          refine foldg fun G0 fin0 => ?_
          rcases keepP z₂ z3 with x | ⟨a, ha, hn⟩
          · refine fin0 ?_
            exact x
          · refine fin0 ?_
            exact absurd hn (W.there _ _ a hP'' ha)) b2 S₂ hX q₂ R (hQ.mono T2) fun z' o' ρ' σ' e h' k' a1 a2 => hE z' o' ρ' σ' e h' k' a1 (T2.trans a2)
      cases fl with
      | next =>
        have := (show f = .next from rf); subst this
        exact wpC_pure ⟨rfl, nextTurn q₂⟩
      | cont =>
        have := (show f = .cont from rf); subst this
        exact wpC_pure ⟨rfl, nextTurn q₂⟩
      | ret r =>
        refine foldg fun G0 fin0 => ?_
        obtain ⟨val, rfl, rv⟩ := rf
        refine fin0 ?_
        exact wpC_pure (hQ z₂ o₂ ρ₂ σ₂ (.ret r) _ h₂ k₂ b1 T2 b2 S₂ ⟨val, rfl, rv⟩ q₂)
    · obtain ⟨b1, b2⟩ := back z₂ o₂ ρ₂ z3 H₂
      have T2 : Tle z z₂ := (T.trans T').trans (z2.trans z4)
      refine wpC_of (wpAny_bind (note_fly (s := ⟨h₂, g, d, k₂, os⟩) hA hf fl fun h₃ fl' => wpAny_theTreesLotGoes ?_))
      exact hE z₂ o₂ ρ₂ σ₂ e h₃ k₂ b1 T2 b2 fl' q₂
end
end Mine
end
section
namespace Mine
section
variable {C : Cx} {base : Heap} {A : Around} {l : List Env} {z₀ z zi fr fr₀ : Fz} {σ : Store} {h : Heap} {env : Env} {L : Addr} {ns : Names} {vis : Vis} {g : Array GenState} {d : Drawn} {os : OsState}
theorem go_pure {M : Model} {s : Shared} {target : PySem.Expr} {it : Addr} {val : Value} {o : Obj} {n : String} (ho : s.heap.get? it = some o) (hc : o.cls = .type n)
    (hn : (["enumerate", "zip", "dict_itemiterator", "dict_reverseitemiterator", "odict_iterator", "itertools.zip_longest", "itertools.pairwise"].contains n) = false) {Q : Unit → Shared → Prop} {E : Value → Shared → Prop} (h : Q () s) :
    wpAny M A (letOwnedTupleGo target (.ref it) val) Q E s := by
  have body : wpAny M A (do
      let (.ref r, .ref a) := (Value.ref it, val) | return
      let o ← load r
      match o.cls, o.data with
      | .type n, .fields vs =>
        if ["enumerate", "zip", "dict_itemiterator", "dict_reverseitemiterator", "odict_iterator", "itertools.zip_longest", "itertools.pairwise"].contains n && vs[0]? == some (rawInt a) then
          rule "for.unpacks-the-owned-tuple"
          updateField r 0 .none
      | _, _ => pure () : Sem Unit) Q E s := by
    cases val with
    | ref a =>
      refine wpAny_bind (wpAny_load ho ?_)
      refine rwg hc ?_
      cases o.data with
      | fields vs => simp only [hn, Bool.false_and, Bool.false_eq_true, if_false]; exact wpAny_pure h
      | _ => exact wpAny_pure h
    | _ => exact wpAny_pure h
  cases target with
  | Tuple _ _ _ => exact body
  | List _ _ => exact body
  | _ => exact wpAny_pure h
theorem base_ne (hh : HOk base A) {a : Addr} (hb : base.get? a = none) : ∀ c, A.handled = some (.ref c) → c ≠ a := fun c hc q => by
  rcases hh with hh | ⟨e, o, vs, h1, h2, _⟩
  · rw [hh] at hc; cases hc
  · rw [h1] at hc; cases hc
    rw [q, hb] at h2; cases h2
noncomputable def ListP (it la : Addr) (i : Nat) (z : Fz) : Prop := ∃ o, z it = some o ∧ o.cls = .type "list_iterator" ∧ o.data = .fields #[.ref la, .int i 0]
theorem iter_list (hh : HOk base A) {it la : Addr} {ok : Store → Prop} {vs : List V} {target : PySem.Expr} (hsrc : ∀ z fr σ h, ok σ → Tle zi z → Sim C base z fr σ h → ∃ ws, h.IsList la ws ∧ VRs C z vs ws.toList) :
    IterOk C base A it zi ok vs target (· = it) (ListP it la) (fun i u_ => ListP it la i) where
  nseq := by
    rintro i z a o ⟨o', h1, h2, h3⟩ rfl h4
    rw [h1] at h4; cases h4
    exact ⟨(not_seq h3 rfl), (fun u_ => data_ne h3 rfl)⟩
  nseq' := by
    rintro i val z a o ⟨o', h1, h2, h3⟩ rfl h4
    rw [h1] at h4; cases h4
    exact ⟨(not_seq h3 rfl), (fun u_ => data_ne h3 rfl)⟩
  there := by
    rintro i z a ⟨o', h1, _⟩ rfl h4
    rw [h1] at h4; cases h4
  loc := by
    rintro i z z' ⟨o, h1, h2⟩ h3
    exact ⟨o, (h3 it rfl).trans h1, h2⟩
  step := by
    rintro i v z fr σ h g d k os hv hok hzi ⟨o, h1, h2, h3⟩ S Q E hQ
    refine foldg fun G0 fin0 => ?_
    obtain ⟨ws, hl, hs⟩ := hsrc z fr σ h hok hzi S
    obtain ⟨w, hw, rw'⟩ := hs.get hv
    refine fin0 ?_
    have ho := (S.fz it o h1).1
    refine wpAny_pyNext_list_item (s := ⟨h, g, d, k, os⟩) ⟨o, ho, h2, h3⟩ hl (by simpa using hw) fun h' hit sb => ?_
    refine foldg fun G0 fin0 => ?_
    obtain ⟨o', g1, g2, g3⟩ := hit
    have nsq : ¬isSeqCls o := not_seq h3 rfl
    obtain ⟨S', T⟩ := S.setZ h1 nsq (fun x ob hx e => (sb.2 x hx).trans e) g1
    refine fin0 ?_
    exact hQ _ w h' k ⟨o', Fz.set_self .., g2, g3⟩ (fun a o hne e => (Fz.set_ne _ _ hne).trans e) S' (rw'.mono T)
  stop := by
    rintro z fr σ h g d k os hok hzi ⟨o, h1, h2, h3⟩ S Q E hQ
    refine foldg fun G0 fin0 => ?_
    obtain ⟨ws, hl, hs⟩ := hsrc z fr σ h hok hzi S
    have ln := hs.length
    obtain ⟨ho, hb, _⟩ := S.fz it o h1
    refine fin0 ?_
    refine next_list_end (s := ⟨h, g, d, k, os⟩) (hh.held S.bas) (base_ne hh hb) ⟨o, ho, h2, h3⟩ hl (by rw [← ln, Array.length_toList]; simp) fun h' kp ht => ?_
    refine foldg fun G0 fin0 => ?_
    obtain ⟨o', g1⟩ := ht
    have nsq : ¬isSeqCls o := not_seq h3 rfl
    obtain ⟨S', T⟩ := S.setZ h1 nsq (fun x ob hx e => kp x ob hx e) g1
    refine fin0 ?_
    exact hQ _ h' k (fun a o hne e => (Fz.set_ne _ _ hne).trans e) S'
  go := by
    rintro val i z fr σ h g d k os ⟨o, h1, h2, h3⟩ S Q E hQ
    exact go_pure (s := ⟨h, g, d, k, os⟩) (S.fz it o h1).1 h2 (by decide) (hQ z h k ⟨o, h1, h2, h3⟩ (fun u_ u_ u_ e => e) S)
noncomputable def RangeP (it : Addr) (a c : Int) (n : Nat) (i : Nat) (z : Fz) : Prop := z it = some { cls := .type "range_iterator", data := .fields #[rawInt (a + i * c), rawInt ((n : Int) - i), rawInt c] }
theorem iter_range (hh : HOk base A) {it : Addr} {a c : Int} {n : Nat} {target : PySem.Expr} : IterOk C base A it zi (fun u_ => True) ((List.range n).map fun (i : Nat) => V.int (a + i * c)) target (· = it) (RangeP it a c n) (fun i u_ => RangeP it a c n i) where
  nseq := by
    rintro i z x o h1 rfl h4
    rw [show z x = _ from h1] at h4; cases h4
    exact ⟨(not_seq rfl rfl), (fun u_ => data_ne rfl rfl)⟩
  nseq' := by
    rintro i val z x o h1 rfl h4
    rw [show z x = _ from h1] at h4; cases h4
    exact ⟨(not_seq rfl rfl), (fun u_ => data_ne rfl rfl)⟩
  there := by
    rintro i z x h1 rfl h4
    rw [show z x = _ from h1] at h4; cases h4
  loc := by
    rintro i z z' h1 h3
    exact (h3 it rfl).trans h1
  step := by
    rintro i v z fr σ h g d k os hv hok hzi h1 S Q E hQ
    have h1 : z it = _ := h1
    have hin : i < n := by
      rcases Nat.lt_or_ge i n with q | q
      · exact q
      · rw [List.getElem?_eq_none (by simpa using q)] at hv; cases hv
    have ev : v = V.int (a + i * c) := by
      rw [List.getElem?_map, List.getElem?_range hin] at hv; exact (Option.some.inj hv).symm
    subst ev
    refine wpAny_pyNext_range_item (s := ⟨h, g, d, k, os⟩) (S.fz it _ h1).1 (by lia) fun h' hit sb => ?_
    have e1 : a + (i : Int) * c + c = a + ((i + 1 : Nat) : Int) * c := by push_cast; rw [Int.add_mul, Int.one_mul, Int.add_assoc]
    have e2 : (n : Int) - (i : Int) - 1 = (n : Int) - ((i + 1 : Nat) : Int) := by push_cast; lia
    rw [e1, e2] at hit
    obtain ⟨S', T⟩ := S.setZ h1 (not_seq rfl rfl) (fun x ob hx e => (sb.2 x hx).trans e) hit
    exact hQ _ _ h' _ (Fz.set_self ..) (fun a o hne e => (Fz.set_ne _ _ hne).trans e) S' (VR.int _ _)
  stop := by
    rintro z fr σ h g d k os hok hzi h1 S Q E hQ
    have h1 : z it = _ := h1
    refine next_range_end (s := ⟨h, g, d, k, os⟩) (hh.held S.bas) (S.fz it _ h1).1 (by simp) fun h' kp => ?_
    exact hQ z h' k (fun u_ u_ u_ e => e) (S.keep kp)
  go := by
    rintro val i z fr σ h g d k os h1 S Q E hQ
    have h1' : z it = _ := h1
    exact go_pure (s := ⟨h, g, d, k, os⟩) (S.fz it _ h1').1 rfl (by decide) (hQ z h k h1 (fun u_ u_ u_ e => e) S)
end
end Mine
end
section
namespace Mine
section
variable {prog : Program} {w : World} {A : Around} {s : Shared} {E : Value → Shared → Prop}
theorem nextOf_end {it l : Addr} {i : Nat} {items : Array Value} {Q : Value → Shared → Prop} (hh : HeldOk A s.heap) (hn : ∀ c, A.handled = some (.ref c) → c ≠ it)
    (hit : s.heap.IsListIter it l i) (hl : s.heap.IsList l items) (hx : items[i]? = none)
    (hE : ∀ h' e, (∀ b o, b ≠ it → s.heap.get? b = some o → h'.get? b = some o) → (∃ o, h'.get? it = some o) → (∃ o, h'.get? e = some o ∧ o.cls = .type "StopIteration") → E (.ref e) { s with heap := h' }) :
    wpAny (model prog w) A (Builtin.SmallTypes.nextOf (.ref it)) Q E s := by
  refine foldg fun G0 fin0 => ?_
  obtain ⟨o, ho, hc, hd⟩ := id hit
  obtain ⟨ol, hol, _, nl, hdl⟩ := hl
  refine fin0 ?_
  unfold Builtin.SmallTypes.nextOf
  refine wpAny_bind (wpAny_callSpecial?_slot (name := Str.ofString "__next__") hit.typeIs slot_listiter_next
    (wpAny_call_entry slot_listiter_next hit.typeIs entry_listiter_next ?_ (args_listiter_next _)))
  show wpAny _ _ (field (.ref it) 0 >>= _) _ _ s
  refine wpAny_bind (wpAny_field ho hd (x := .ref l) rfl ?_)
  refine wpAny_neg (show ¬ ((Value.ref l == Value.none) = true) from Bool.false_ne_true) ?_
  refine wpAny_bind (wpAny_field ho hd (x := .int i 0) rfl ?_)
  refine wpAny_bind (wpAny_seqItems hol hdl ?_)
  simp only [Int.toNat_natCast, hx]
  refine wpAny_bind (wpAny_rule (wpAny_bind (wpAny_setField ho hd (by simp) ?_)))
  have hit' := Heap.get?_update_self (Obj.mapFields (·.setIfInBounds 0 Value.none)) ho (Obj.isFreed_of_fields (Obj.data_mapFields hd _))
  refine stop_raise (hh.keep fun c o hc e => (Heap.get?_update_ne _ _ _ _ (hn c hc)).trans e) fun e h' e1 e2 e3 => ?_
  exact hE _ _ (fun b o hb x => e2 _ _ ((Heap.get?_update_ne _ _ _ _ hb).trans x)) ⟨_, e2 _ _ hit'⟩ e3
theorem enum_end {e it l : Addr} {i : Nat} {items : Array Value} {old : Value} {Q : Option Value → Shared → Prop} (hh : HeldOk A s.heap) (hn : ∀ c, A.handled = some (.ref c) → c ≠ it)
    (he : IsEnum s.heap e it i old) (hit : s.heap.IsListIter it l i) (hl : s.heap.IsList l items) (hx : items[i]? = none)
    (hQ : ∀ h', (∀ b o, b ≠ it → s.heap.get? b = some o → h'.get? b = some o) → (∃ o, h'.get? it = some o) → Q none { s with heap := h' }) : wpAny (model prog w) A (pyNext (.ref e)) Q E s := by
  have hT : s.TypeIs (.ref e) "enumerate" := ⟨_, he, rfl⟩
  unfold pyNext
  refine wpAny_bind (wpAny_attempt (wpAny_callSpecial?_slot (name := Str.ofString "__next__") hT F.slot_enumerate_next
    (wpAny_call_entry F.slot_enumerate_next hT F.entry_enumerate_next ?_ (F.args_enumerate_next_1 _))))
  show wpAny _ _ (field (.ref e) 2 >>= _) _ _ _
  refine wpAny_bind (wpAny_field he rfl (x := .ref it) rfl ?_)
  refine wpAny_bind (nextOf_end hh hn hit hl hx fun h' x he' ho' hx' => ?_)
  obtain ⟨o, ho, hc⟩ := hx'
  refine wpAny_bind (wpAny_isInstance (T := "StopIteration") (b := true) ⟨o, ho, hc⟩ isSubtype_stop ?_)
  exact wpAny_pure (hQ _ he' ho')
end
abbrev enumObj (f : Value) (it : Addr) (i : Int) (old : Value) : Obj := { cls := .type "enumerate", data := .fields #[f, .bool false, .ref it, rawInt i, .none, old] }
noncomputable def EnumP (e it la : Addr) (i : Nat) (z : Fz) : Prop := ListP it la i z ∧ ∃ old, z e = some (enumObj .none it i old)
noncomputable def EnumP' (e it la : Addr) (i : Nat) (val : Value) (z : Fz) : Prop := ListP it la i z ∧ ∃ old a, val = .ref a ∧ z e = some (enumObj (rawInt a) it i old)
theorem enumL_get (vs : List V) : ∀ (n i : Nat) (v : V), (enumL n vs)[i]? = some v → ∃ x, vs[i]? = some x ∧ v = .tup [.int ((n + i : Nat) : Int), x] := by
  induction vs with
  | nil => exact nofun
  | cons w L ih =>
    intro k i v h
    cases i with
    | zero => cases h; exact ⟨w, rfl, rfl⟩
    | succ i => exact (ih (k + 1) i v h).imp fun u h => ⟨h.1, by rw [h.2, Nat.add_assoc, Nat.add_comm 1]⟩
theorem enumL_len (vs : List V) : ∀ n : Nat, (enumL n vs).length = vs.length := by
  induction vs with
  | nil => exact fun u_ => rfl
  | cons x vs ih => exact fun n => congrArg Nat.succ (ih (n + 1))
section
variable {C : Cx} {base : Heap} {A : Around} {l : List Env} {z₀ z zi fr fr₀ : Fz} {σ : Store} {h : Heap} {env : Env} {L : Addr} {ns : Names} {vis : Vis} {g : Array GenState} {d : Drawn} {os : OsState}
theorem iter_enum (hh : HOk base A) {e it la : Addr} (hne : e ≠ it) {ok : Store → Prop} {vs : List V} {elts : List PySem.Expr} {u pos} (hsrc : ∀ z fr σ h, ok σ → Tle zi z → Sim C base z fr σ h → ∃ ws, h.IsList la ws ∧ VRs C z vs ws.toList) :
    IterOk C base A e zi ok (enumL 0 vs) (.Tuple elts u pos) (fun a => a = it ∨ a = e) (EnumP e it la) (EnumP' e it la) where
  nseq := by
    rintro i z a o ⟨⟨o', h1, h2, h3⟩, old, h4⟩ (rfl | rfl) h5
    · rw [h1] at h5; cases h5
      exact ⟨(not_seq h3 rfl), (fun u_ => data_ne h3 rfl)⟩
    · rw [h4] at h5; cases h5
      exact ⟨(not_seq rfl rfl), (fun u_ => data_ne rfl rfl)⟩
  nseq' := by
    rintro i val z a o ⟨⟨o', h1, h2, h3⟩, old, a', _, h4⟩ (rfl | rfl) h5
    · rw [h1] at h5; cases h5
      exact ⟨(not_seq h3 rfl), (fun u_ => data_ne h3 rfl)⟩
    · rw [h4] at h5; cases h5
      exact ⟨(not_seq rfl rfl), (fun u_ => data_ne rfl rfl)⟩
  there := by
    rintro i z a ⟨⟨o', h1, h2, h3⟩, old, h4⟩ (rfl | rfl) h5
    · rw [h1] at h5; cases h5
    · rw [h4] at h5; cases h5
  loc := by
    rintro i z z' ⟨⟨o', h1, h2, h3⟩, old, h4⟩ h5
    exact ⟨⟨o', (h5 it (.inl rfl)).trans h1, h2, h3⟩, old, (h5 e (.inr rfl)).trans h4⟩
  step := by
    rintro i v z fr σ h g d k os hv hok hzi ⟨⟨o, h1, h2, h3⟩, old, h4⟩ S Q E hQ
    refine foldg fun G0 fin0 => ?_
    obtain ⟨x, hx, rfl⟩ := enumL_get vs 0 i v hv
    obtain ⟨ws, hl, hs⟩ := hsrc z fr σ h hok hzi S
    obtain ⟨w, hw, rw'⟩ := hs.get hx
    refine fin0 ?_
    have ho := (S.fz it o h1).1
    refine wpAny_pyNext_enum_item (s := ⟨h, g, d, k, os⟩) (S.fz e _ h4).1 ⟨o, ho, h2, h3⟩ hl (by simpa using hw) hne fun h' e1 e2 e3 e4 e5 => ?_
    refine foldg fun G0 fin0 => ?_
    obtain ⟨o', g1, g2, g3⟩ := e2
    refine fin0 ?_
    -- two places turn, and a tuple is new
    have nt : h.get? h.objs.size = none := get_size h
    refine foldg fun G0 fin0 => ?_
    obtain ⟨nz, nf, nb, ns, no⟩ := S.new_off nt
    refine fin0 ?_
    have te : h.objs.size ≠ e := fun q => by have := (S.fz e _ h4).1; rw [← q, nt] at this; cases this
    have tt : h.objs.size ≠ it := fun q => by rw [← q, nt] at ho; cases ho
    have offs : ∀ x, ¬(x = it ∨ x = e) → ((z.set it o').set e (enumObj (rawInt h.objs.size) it ((i : Int) + 1) w)) x = z x := fun x q => by rw [Fz.set_ne _ _ fun r => q (.inr r), Fz.set_ne _ _ fun r => q (.inl r)]
    have S' := S.setZs (P := fun a => a = it ∨ a = e) (z' := (z.set it o').set e (enumObj (rawInt h.objs.size) it ((i : Int) + 1) w)) (fun p q => q.elim (fun r => r ▸ ⟨o, h1, not_seq h3 rfl⟩) fun r => r ▸ ⟨_, h4, not_seq rfl rfl⟩)
      offs (fun x ob q r => e5 x ob (fun r => q (.inr r)) (fun r => q (.inl r)) r) fun p ob q r => by
        rcases q with rfl | rfl
        · rw [Fz.set_ne _ _ (Ne.symm hne), Fz.set_self] at r; cases r; exact g1
        · rw [Fz.set_self] at r; cases r; exact e1
    obtain ⟨S', T⟩ := S'
    have nz' : ((z.set it o').set e (enumObj (rawInt h.objs.size) it ((i : Int) + 1) w)) h.objs.size = none := by rw [Fz.set_ne _ _ te, Fz.set_ne _ _ tt]; exact nz
    have no' : ¬ Own σ h' h.objs.size := by
      rintro (⟨ob, q⟩ | ⟨b, c, fs, q, dd⟩)
      · rw [ns] at q; cases q
      · obtain ⟨ob, hob⟩ := (S.cell b _ q).there
        have n1 : b ≠ it := fun r => by have := (S.off b _ q).1; rw [r, h1] at this; cases this
        have n2 : b ≠ e := fun r => by have := (S.off b _ q).1; rw [r, h4] at this; cases this
        exact no (.inr ⟨b, c, fs, q, dd.keep hob (e5 b ob n2 n1 hob)⟩)
    have S'' := S'.freeze e3 nz' nf nb no'
    have Z := Zle.set (o := { cls := .type "tuple", data := .seq #[.int i k, w] }) nz'
    refine hQ _ _ h' _ ⟨⟨o', ?_, g2, g3⟩, w, h.objs.size, rfl, ?_⟩ (fun a ob hn q => ?_) S'' ?_
    · exact Z _ _ (by rw [Fz.set_ne _ _ (Ne.symm hne)]; exact Fz.set_self ..)
    · rw [Fz.set_ne _ _ (Ne.symm te), Fz.set_self]
      have : ((i : Int) + 1) = ((i + 1 : Nat) : Int) := by push_cast; rfl
      rw [this]
    · refine Z _ _ ?_
      rw [Fz.set_ne _ _ (fun r => hn (.inr r)), Fz.set_ne _ _ (fun r => hn (.inl r))]; exact q
    · simp only [VR]
      refine ⟨_, _, _, rfl, Fz.set_self .., ?_⟩
      refine VRs.cons ?_ (VRs.cons ((rw'.mono T).mono Z.t) VRs.nil)
      rw [Nat.zero_add]; exact VR.int _ _
  stop := by
    rintro z fr σ h g d k os hok hzi ⟨⟨o, h1, h2, h3⟩, old, h4⟩ S Q E hQ
    rw [enumL_len] at h3 h4
    refine foldg fun G0 fin0 => ?_
    obtain ⟨ws, hl, hs⟩ := hsrc z fr σ h hok hzi S
    have ln := hs.length
    obtain ⟨ho, hb, _⟩ := S.fz it o h1
    refine fin0 ?_
    refine enum_end (s := ⟨h, g, d, k, os⟩) (hh.held S.bas) (base_ne hh hb) (S.fz e _ h4).1 ⟨o, ho, h2, h3⟩ hl (by rw [← ln, Array.length_toList]; simp) fun h' kp ht => ?_
    refine foldg fun G0 fin0 => ?_
    obtain ⟨o', g1⟩ := ht
    have nsq : ¬isSeqCls o := not_seq h3 rfl
    obtain ⟨S', T⟩ := S.setZ h1 nsq (fun x ob hx e => kp x ob hx e) g1
    refine fin0 ?_
    exact hQ _ h' k (fun a o hn q => (Fz.set_ne _ _ (fun r => hn (.inl r))).trans q) S'
  go := by
    rintro val i z fr σ h g d k os ⟨⟨o, h1, h2, h3⟩, old, a, rfl, h4⟩ S Q E hQ
    have he := (S.fz e _ h4).1
    have body : wpAny (model C.prog C.w) A (do
        let o ← load e
        match o.cls, o.data with
        | .type n, .fields vs =>
          if ["enumerate", "zip", "dict_itemiterator", "dict_reverseitemiterator", "odict_iterator", "itertools.zip_longest", "itertools.pairwise"].contains n && vs[0]? == some (rawInt a) then
            rule "for.unpacks-the-owned-tuple"
            updateField e 0 .none
        | _, _ => pure () : Sem Unit) Q E ⟨h, g, d, k, os⟩ := by
      refine wpAny_bind (wpAny_load he ?_)
      have c1 : (["enumerate", "zip", "dict_itemiterator", "dict_reverseitemiterator", "odict_iterator", "itertools.zip_longest", "itertools.pairwise"].contains "enumerate" && #[rawInt a, Value.bool false, Value.ref it, rawInt i, Value.none, old][0]? == some (rawInt a)) = true := by simp
      refine wpAny_pos c1 ?_
      refine wpAny_bind (wpAny_rule ?_)
      refine wpAny_setField_rec he (by simp) fun h' he' hs => ?_
      obtain ⟨S', T⟩ := S.setZ h4 (not_seq rfl rfl) (fun x ob hx q => (hs.2 x hx).trans q) he'
      exact hQ _ h' k ⟨⟨o, (Fz.set_ne _ _ (Ne.symm hne)).trans h1, h2, h3⟩, old, Fz.set_self ..⟩ (fun b ob hn q => (Fz.set_ne _ _ (fun r => hn (.inr r))).trans q) S'
    exact body
end
end Mine
end
section
namespace Mine
theorem folded_no {e : PySem.Expr} {env : Env} {x : Value} (h : notSet e = true) : foldedSetIterable e env x = pure x := by
  cases e <;> first | rfl | cases h
section
variable {C : Cx} {base : Heap} {A : Around} {l : List Env} {z₀ z zi fr fr₀ : Fz} {σ : Store} {h : Heap} {env : Env} {L : Addr} {ns : Names} {vis : Vis} {g : Array GenState} {d : Drawn} {os : OsState} {mg mb : Str → Option Value}
  {Q : Fl → Loc → Store → Prop} {X : Loc → Store → Prop} {Q' : Flow → Shared → Prop} {E' : Value → Shared → Prop}
theorem for_tail (hA : A.frames = some (env :: l)) (hf : env.frame = some L) {it : Addr} {ok : Store → Prop} {vs : List V} {own : Addr → Prop} {P : Nat → Fz → Prop} {P' : Nat → Value → Fz → Prop} {target : PySem.Expr}
    (W : IterOk C base A it zi ok vs target own P P') {body : List Stmt} {ft : V → Loc → Tr Loc} {fb : TrS} (ht : ∀ z₀, RefT C base (env :: l) z₀ fr₀ A env L vis (assign target env) ft) (hb : ∀ z₀, RefS C base (env :: l) z₀ fr₀ A env L vis (execs body env) fb)
    {o : Obj} {ρ : Loc} {k : Tok} (hz : Zle z₀ z) (hown : ∀ a, own a → z₀ a = none) (hzi : Tle zi z) (hP : P 0 z) (H : Here C z₀ z fr₀ env L ρ vis o) (S : Sim C base z (fr₀.set L o) σ h) (hX : A.handled = none ∨ ∀ ρ σ, ¬ X ρ σ)
    (q : wLoop ok (fun v ρ σ Q X => ft v ρ σ (fun ρ σ => fb ρ σ Q X) noX) vs ρ σ Q X) (hQ : PostF C base z₀ fr₀ env L vis g d os z Q Q') (hE : PostE C base (env :: l) z₀ fr₀ env L vis g d os z X E') :
    wpC (model C.prog C.w) A (runOwn (.forLoop target (.ref it) body [] env) env) Q' E' ⟨h, g, d, k, os⟩ := by
  unfold runOwn
  refine wpC_onRaise (wpC_run ?_ (by intro x; cases x))
  rw [mark_none]
  refine loop_C (z₀ := z₀) hA hf W ht hb vs.length 0 z o ρ σ h k Q X (by lia) (Nat.zero_le _) hz hown hzi hP H S hX q _ hQ ?_
  intro z' o' ρ' σ' e h' k' z1 z2 H' fl q'
  exact wpC_of (back_fly (s := ⟨h', g, d, k', os⟩) hf fl fun h'' fl' => hE z' o' ρ' σ' e h'' k' z1 z2 H' (fl'.fly hf) q')
theorem src_of {v : V} {val : Value} {K : (Store → Prop) → List V → Prop} (rv : VR C z v val) (S : Sim C base z fr σ h) (q : srcOf σ v K) :
    ∃ la ok vs, val = .ref la ∧ K ok vs ∧ (∃ ws, h.IsList la ws) ∧ (∀ zi, Tle z zi → ∀ z' fr' σ' h', ok σ' → Tle zi z' → Sim C base z' fr' σ' h' → ∃ ws, h'.IsList la ws ∧ VRs C z' vs ws.toList) := by
  refine foldg fun G0 fin0 => ?_
  obtain ⟨ok, vs, r, q⟩ := q
  refine fin0 ?_
  cases r with
  | list vs =>
    refine foldg fun G0 fin0 => ?_
    obtain ⟨a, ol, ws, n, rfl, hz, hc, hd, hs⟩ := rv.list_inv
    refine fin0 ?_
    exact ⟨a, _, _, rfl, q, ⟨ws, _, (S.fz a _ hz).1, hc, n, hd⟩, fun zi t z' fr' σ' h' u_ t' S' => ⟨ws, ⟨_, (S'.fz a _ ((t.trans t') _ _ hz ⟨_, _, hd⟩)).1, hc, n, hd⟩, (hs.mono t).mono t'⟩⟩
  | cell r vs hr =>
    refine rv.ref_e ?_
    refine foldg fun G0 fin0 => ?_
    obtain ⟨ws, n, e1, e2⟩ := S.cell r _ hr
    refine fin0 ?_
    refine ⟨r, _, _, rfl, q, ⟨ws, _, e1, rfl, n, rfl⟩, fun zi t z' fr' σ' h' hok t' S' => ?_⟩
    refine foldg fun G0 fin0 => ?_
    obtain ⟨ws', n', e3, e4⟩ := S'.cell r _ hok
    refine fin0 ?_
    exact ⟨ws', ⟨_, e3, rfl, n', rfl⟩, e4⟩
theorem s_for (hA : A.frames = some (env :: l)) (hf : env.frame = some L) (hh : HOk base A) {target iter : PySem.Expr} {body : List Stmt} {pos : Pos} {fa : Loc → Tr V} {ft : V → Loc → Tr Loc} {fb : TrS} (hn : notSet iter = true)
    (ha : RefX C base (env :: l) z₀ fr₀ A env L vis (eval iter env) fa (VR C)) (ht : ∀ z₀, RefT C base (env :: l) z₀ fr₀ A env L vis (assign target env) ft) (hb : ∀ z₀, RefS C base (env :: l) z₀ fr₀ A env L vis (execs body env) fb) :
    RefS C base (env :: l) z₀ fr₀ A env L vis (exec (.For target iter body [] pos) env) (cFor (fun ρ σ K X => fa ρ σ (fun v σ => srcOf σ v fun ok vs => vs.length ≤ 100000 ∧ K ok vs σ) X) ft fb) := by
  intro z o ρ σ h k g d os Q X hz H q S hX Q' E' hQ hE
  rw [exec_For]
  refine wpC_bind (wpC_standAt (wpC_bind ?_))
  refine ha z o ρ hz H z σ h k g d os _ (X ρ) (Zle.refl _) q S (hX.imp id fun hX σ => hX ρ σ) _ _ (fun z₂ σ₂ v val h₂ k₂ hz₂ S₂ rv q₂ => ?_) (hE.ex hz H)
  rw [folded_no hn]
  refine wpC_bind (wpC_pure (wpC_bind (wpC_standAt (wpC_bind (wpC_holding ?_)))))
  refine foldg fun G0 fin0 => ?_
  obtain ⟨la, ok, vs, rfl, ⟨_, q₃⟩, ⟨ws, hl⟩, src⟩ := src_of rv S₂ q₂
  refine fin0 ?_
  refine wpC_of (wpAny_pyIter_list (s := ⟨h₂, g, d, k₂, os⟩) hl ?_)
  refine foldg fun G0 fin0 => ?_
  obtain ⟨nz, nf, nb, nsσ, no⟩ := S₂.new_off (get_size h₂)
  refine fin0 ?_
  have S₃ := (S₂.keep (h' := h₂.push { cls := .type "list_iterator", data := .fields #[.ref la, .int 0 0] }) fun u_ u_ e => Heap.get?_push_of_some _ e).freeze (Heap.get?_push_size _ rfl) nz nf nb (by
    rintro (⟨ob, e⟩ | ⟨a, c, fs, e, dd⟩)
    · rw [nsσ] at e; cases e
    · obtain ⟨ob, ho⟩ := (S₂.cell a _ e).there
      exact no (.inr ⟨a, c, fs, e, dd.keep ho (Heap.get?_push_of_some _ ho)⟩))
  have Z : Zle z₂ (z₂.set h₂.objs.size { cls := .type "list_iterator", data := .fields #[.ref la, .int 0 0] }) := Zle.set nz
  have hz02 := hz.trans hz₂
  refine for_tail hA hf (iter_list hh (src _ Z.t)) ht hb (hz02.trans Z) (fun a e => ?_) (Tle.refl _) ⟨_, Fz.set_self .., rfl, rfl⟩ (H.mono (hz₂.trans Z)) S₃ hX q₃ (hQ.mono (hz₂.trans Z).t) (hE.mono (hz₂.trans Z).t)
  subst e
  cases q : z₀ h₂.objs.size with
  | none => rfl
  | some ob => rw [hz02 _ _ q] at nz; cases nz
end
end Mine
end
section
namespace Mine
noncomputable def RngIs (items : List V) (z : Fz) (a : Addr) : Prop :=
  ∃ lo hi st n t u v, z a = some { cls := .type "range", data := .fields #[.int lo t, .int hi u, .int st v] } ∧ items = (List.range n).map (fun (i : Nat) => V.int (lo + i * st)) ∧ Builtin.Range.small lo hi st = true ∧ Builtin.Range.rangeSize lo hi st = n ∧ n ≤ 100000
theorem rng_small {n : Int} (h1 : -100000 ≤ n) (h2 : n ≤ 100000) : Builtin.Range.small 0 n 1 = true ∧ Builtin.Range.rangeSize 0 n 1 = n.toNat := by
  have e : Builtin.Range.rangeSize 0 n 1 = n.toNat := by
    rw [rangeSize_one]; split <;> lia
  refine ⟨?_, e⟩
  unfold Builtin.Range.small
  refine rwg e ?_
  simp only [Builtin.Range.rangeFitsLong, Bool.and_eq_true, Bool.or_eq_true, decide_eq_true_eq]
  have b : -2 ^ 63 ≤ n ∧ n < 2 ^ 63 := ⟨Int.le_trans (by decide) h1, Int.lt_of_le_of_lt h2 (by decide)⟩
  refine ⟨⟨⟨⟨by decide, b⟩, by decide⟩, Int.le_trans (by decide) (Int.natCast_nonneg _), Int.lt_of_le_of_lt (Int.ofNat_le.mpr (Int.toNat_le.mpr h2)) (by decide)⟩, ?_⟩
  right
  refine rwg (if_pos (by decide)) ?_
  simp only [decide_eq_true_eq, Bool.and_eq_true]
  show -2 ^ 63 ≤ n + 0 ∧ n + 0 < 2 ^ 63
  rw [Int.add_zero]
  exact b
section
variable {C : Cx} {base : Heap} {A : Around} {l : List Env} {z₀ z zi fr fr₀ : Fz} {σ : Store} {h : Heap} {env : Env} {L : Addr} {ns : Names} {vis : Vis} {g : Array GenState} {d : Drawn} {os : OsState} {mg mb : Str → Option Value}
  {Q : Fl → Loc → Store → Prop} {X : Loc → Store → Prop} {Q' : Flow → Shared → Prop} {E' : Value → Shared → Prop}
theorem Sim.pushZ (S : Sim C base z fr σ h) (o : Obj) (hf : o.isFreed = false := by rfl) : Sim C base (z.set h.objs.size o) fr σ (h.push o) ∧ Zle z (z.set h.objs.size o) ∧ z h.objs.size = none := by
  refine foldg fun G0 fin0 => ?_
  obtain ⟨nz, nf, nb, nsσ, no⟩ := S.new_off (get_size h)
  refine fin0 ?_
  refine ⟨(S.keep fun u_ u_ e => Heap.get?_push_of_some _ e).freeze (Heap.get?_push_size _ hf) nz nf nb (by
    rintro (⟨ob, e⟩ | ⟨a, c, fs, e, dd⟩)
    · rw [nsσ] at e; cases e
    · obtain ⟨ob, ho⟩ := (S.cell a _ e).there
      exact no (.inr ⟨a, c, fs, e, dd.keep ho (Heap.get?_push_of_some _ ho)⟩)), Zle.set nz, nz⟩
theorem op_range {vs : List V} {ws : List Value} {K : List V → Prop} (S : Sim C base z fr σ h) (rv : VRs C z vs ws) (q : wRange vs K) {k : Tok} {Q' : Value → Shared → Prop} {E' : Value → Shared → Prop}
    (hQ : ∀ z' items a h' k', Zle z z' → Sim C base z' fr σ h' → RngIs items z' a → K items → Q' (.ref a) ⟨h', g, d, k', os⟩) : wpAny (model C.prog C.w) A (call (.type "range") ws []) Q' E' ⟨h, g, d, k, os⟩ := by
  obtain ⟨items, r, q⟩ := q
  cases r with
  | one n hn =>
    refine rv.one fun w r1 => ?_
    refine r1.int_e fun t => ?_
    refine call_range_1 (s := ⟨h, g, d, k, os⟩) ?_
    obtain ⟨S', Z, _⟩ := S.pushZ { cls := .type "range", data := .fields #[.int 0 k, .int n t, .int 1 (k + 1)] }
    obtain ⟨s1, s2⟩ := rng_small hn.1 hn.2
    refine hQ _ (rngL n) _ _ _ Z S' ⟨0, n, 1, n.toNat, k, t, k + 1, Fz.set_self .., ?_, s1, s2, by have := hn.2; lia⟩ q
    unfold rngL
    exact List.map_congr_left fun i u_ => by simp
  | down =>
    obtain ⟨w, ws', rfl, r1, r2⟩ := rv.inv
    refine r2.two fun w2 w3 r3 r5 => ?_
    refine r1.int_e fun t => ?_
    refine r3.int_e fun u => ?_
    refine r5.int_e fun v => ?_
    refine call_range_3 (s := ⟨h, g, d, k, os⟩) (by decide) ?_ (.inl (PyProof.noPylong_of_log2 (by decide +kernel)))
    obtain ⟨S', Z, _⟩ := S.pushZ { cls := .type "range", data := .fields #[.int 63 t, .int (-1) u, .int (-8) v] }
    exact hQ _ _ _ _ _ Z S' ⟨63, -1, -8, 8, t, u, v, Fz.set_self .., by rfl, by decide, by decide, by decide⟩ q
theorem ref_range (F : Facts C base mg mb) {ns : Names} (ok : EnvOk env ns) {r : Str} {p pos : Pos} {xs : List PySem.Expr} {fes : Tr (List V)} (hr : (r == "range") = true) (hk : (ns.lookup r == some .globalImplicit) = true)
    (hp : (backTo pos (starEach xs env)).any (·.1) = false) (hb : RefEs C base l z fr A xs env fes) :
    Ref C base l z fr A (eval (.Call (.Name r p) xs [] pos) env) (fun σ Q X => fes σ (fun vs σ => wRange vs fun items => Q items σ) X) (fun z items v => ∃ a, v = .ref a ∧ RngIs items z a) := by
  intro z₁ σ h k g d os Q X hz q S hX Q' E' hQ hE
  have er : Str.ofString "range" = r := (beq_iff_eq.mp hr).symm
  refine rwg (eval_call_plain rfl) ?_
  refine wpC_bind (ref_g (n := "range") F ok (by decide) er hk (by rw [← er]; decide) z₁ σ h k g d os (fun v σ' => v = gval "range" ∧ σ' = σ) X hz ⟨rfl, rfl⟩ S hX _ _ (fun z₂ σ₂ vf f h₂ k₂ hz₂ S₂ rf q₂ => ?_) hE)
  obtain ⟨rfl, rfl⟩ := q₂
  have := (show VR C z₂ (.bi (.type "range")) f from rf).bi_inv
  subst this
  refine callWith_C (P := fun u_ => True) hp (fun h u_ => ⟨.machine, .inr rfl, Looks.of_pure rfl⟩) ?_
  refine hb pos z₂ σ₂ h₂ k₂ g d os _ X (hz.trans hz₂) q S₂ hX _ _ (fun z₃ σ₃ vs ws h₃ k₃ hz₃ S₃ rv q₃ => ⟨trivial, ?_⟩) (hE.mono hz₂)
  refine wpC_of (op_range S₃ rv q₃ fun z' items a h' k' hz' S' ri qi => ?_)
  exact hQ z' σ₃ items _ h' k' ((hz₂.trans hz₃).trans hz') S' ⟨a, rfl, ri⟩ qi
theorem s_for_rng (F : Facts C base mg mb) (B : BlockOk env L ns vis) (hA : A.frames = some (env :: l)) (hf : env.frame = some L) (hh : HOk base A) {r : Str} {p pos' pos : Pos} {xs : List PySem.Expr} {target : PySem.Expr} {body : List Stmt} {fes : Loc → Tr (List V)}
    {ft : V → Loc → Tr Loc} {fb : TrS} (hr : (r == "range") = true) (hk : (ns.lookup r == some .globalImplicit) = true) (hp : (backTo pos' (starEach xs env)).any (·.1) = false)
    (ha : ∀ z o ρ, Zle z₀ z → Here C z₀ z fr₀ env L ρ vis o → RefEs C base (env :: l) z (fr₀.set L o) A xs env (fes ρ)) (ht : ∀ z₀, RefT C base (env :: l) z₀ fr₀ A env L vis (assign target env) ft) (hb : ∀ z₀, RefS C base (env :: l) z₀ fr₀ A env L vis (execs body env) fb) :
    RefS C base (env :: l) z₀ fr₀ A env L vis (exec (.For target (.Call (.Name r p) xs [] pos') body [] pos) env) (cFor (fun ρ σ K X => fes ρ σ (fun vs σ => wRange vs fun items => K (fun u_ => True) items σ) X) ft fb) := by
  intro z o ρ σ h k g d os Q X hz H q S hX Q' E' hQ hE
  rw [exec_For]
  refine wpC_bind (wpC_standAt (wpC_bind ?_))
  refine ref_range F B.toEnvOk hr hk hp (ha z o ρ hz H) z σ h k g d os (fun items σ => wLoop (fun u_ => True) (fun v ρ σ Q X => ft v ρ σ (fun ρ σ => fb ρ σ Q X) noX) items ρ σ Q X) (X ρ) (Zle.refl _) q S (hX.imp id fun hX σ => hX ρ σ) _ _
    (fun z₂ σ₂ items val h₂ k₂ hz₂ S₂ rv q₂ => ?_) (hE.ex hz H)
  refine foldg fun G0 fin0 => ?_
  obtain ⟨a, rfl, lo, hi, st, n, t, u, v, e1, rfl, e3, e4, _⟩ := rv
  refine fin0 ?_
  rw [folded_no rfl]
  refine wpC_bind (wpC_pure (wpC_bind (wpC_standAt (wpC_bind (wpC_holding ?_)))))
  refine wpC_of (wpAny_pyIter_range (s := ⟨h₂, g, d, k₂, os⟩) (S₂.fz a _ e1).1 e3 ?_)
  refine rwg e4 ?_
  refine foldg fun G0 fin0 => ?_
  obtain ⟨S₃, Z, nz⟩ := S₂.pushZ { cls := .type "range_iterator", data := .fields #[rawInt lo, rawInt (n : Int), rawInt st] }
  refine fin0 ?_
  have hz02 := hz.trans hz₂
  refine for_tail hA hf (iter_range (zi := z₂) hh (a := lo) (c := st) (n := n)) ht hb (hz02.trans Z) (fun a e => ?_) Z.t ?_ (H.mono (hz₂.trans Z)) S₃ hX q₂ (hQ.mono (hz₂.trans Z).t) (hE.mono (hz₂.trans Z).t)
  · subst e
    cases q : z₀ h₂.objs.size with
    | none => rfl
    | some ob => rw [hz02 _ _ q] at nz; cases nz
  · show (z₂.set _ _) _ = _
    rw [Fz.set_self]; simp
set_option tactic.hygienic true in
theorem s_for_enum (F : Facts C base mg mb) (B : BlockOk env L ns vis) (hA : A.frames = some (env :: l)) (hf : env.frame = some L) (hh : HOk base A) {r : Str} {p pos' pos : Pos} {x : PySem.Expr} {elts : List PySem.Expr} {tu tp} {body : List Stmt} {fa : Loc → Tr V}
    {ft : V → Loc → Tr Loc} {fb : TrS} (hr : (r == "enumerate") = true) (hk : (ns.lookup r == some .globalImplicit) = true) (hs : notStar x = true)
    (ha : RefX C base (env :: l) z₀ fr₀ A env L vis (eval x env) fa (VR C)) (ht : ∀ z₀, RefT C base (env :: l) z₀ fr₀ A env L vis (assign (.Tuple elts tu tp) env) ft) (hb : ∀ z₀, RefS C base (env :: l) z₀ fr₀ A env L vis (execs body env) fb) :
    RefS C base (env :: l) z₀ fr₀ A env L vis (exec (.For (.Tuple elts tu tp) (.Call (.Name r p) [x] [] pos') body [] pos) env) (cFor (fun ρ σ K X => fa ρ σ (fun v σ => srcOf σ v fun ok vs => vs.length ≤ 100000 ∧ K ok (enumL 0 vs) σ) X) ft fb) := by
  intro z o ρ σ h k g d os Q X hz H q S hX Q' E' hQ hE
  rw [exec_For]
  refine wpC_bind (wpC_standAt (wpC_bind ?_))
  have er : Str.ofString "enumerate" = r := (beq_iff_eq.mp hr).symm
  rw [eval_call_plain rfl]
  refine wpC_bind (ref_g (n := "enumerate") F B.toEnvOk (by decide) er hk (by rw [← er]; decide) z σ h k g d os (fun v σ' => v = gval "enumerate" ∧ σ' = σ) (X ρ) (Zle.refl _) ⟨rfl, rfl⟩ S (hX.imp id fun hX σ => hX ρ σ) _ _ (fun z₁ σ₁ vf f h₁ k₁ hz₁ S₁ rf q₁ => ?_) (hE.ex hz H))
  obtain ⟨rfl, rfl⟩ := q₁
  have := (show VR C z₁ (.bi (.type "enumerate")) f from rf).bi_inv
  subst this
  have hp : (backTo pos' (starEach [x] env)).any (·.1) = false := by rw [starEach_cons hs]; rfl
  refine callWith_C (P := fun u_ => True) hp (fun h u_ => ⟨.machine, .inr rfl, Looks.of_pure rfl⟩) ?_
  have hz01 := hz.trans hz₁
  have args : RefEs C base (env :: l) z₁ (fr₀.set L o) A [x] env _ := ref_cons hs (ha z₁ o ρ hz01 (H.mono hz₁)) ref_nil
  refine args pos' z₁ σ₁ h₁ k₁ g d os (fun vs σ => match vs with | [v] => srcOf σ v fun ok vs => vs.length ≤ 100000 ∧ wLoop ok (fun v ρ σ Q X => ft v ρ σ (fun ρ σ => fb ρ σ Q X) noX) (enumL 0 vs) ρ σ Q X | _ => False) (X ρ) (Zle.refl _) q S₁
    (hX.imp id fun hX σ => hX ρ σ) _ _ (fun z₂ σ₂ vs ws h₂ k₂ hz₂ S₂ rv q₂ => ⟨trivial, ?_⟩) ((hE.ex hz H).mono hz₁)
  dsimp only at q₂
  split at q₂
  · rename_i v
    refine foldg fun G0 fin0 => ?_
    obtain ⟨w, ws', rfl, r1, r2⟩ := rv.inv; have := r2.inv0; subst this
    obtain ⟨la, ok, vs, rfl, ⟨_, q₃⟩, ⟨ws, hl⟩, src⟩ := src_of r1 S₂ q₂
    refine fin0 ?_
    have hz02 := hz01.trans hz₂
    refine wpC_of (call_enumerate_list (s := ⟨h₂, g, d, k₂, os⟩) hl fun h' e1 e2 e3 e4 => ?_)
    refine foldg fun G0 fin0 => ?_
    obtain ⟨oi, f1, f2, f3⟩ := e2
    refine fin0 ?_
    have n1 : h₂.get? h₂.objs.size = none := get_size h₂
    have n2 : h₂.get? (h₂.objs.size + 1) = none := by
      cases q : h₂.get? (h₂.objs.size + 1) with
      | none => rfl
      | some o => exact absurd (Heap.lt_size q) (Nat.not_lt.mpr (Nat.le_succ _))
    have ne12 : h₂.objs.size + 1 ≠ h₂.objs.size := Nat.succ_ne_self _
    refine foldg fun G0 fin0 => ?_
    obtain ⟨a1, a2, a3, a4, a5⟩ := S₂.new_off n1
    obtain ⟨b1, b2, b3, b4, b5⟩ := S₂.new_off n2
    refine fin0 ?_
    have own' : ∀ x, h₂.get? x = none → ¬ Own σ₂ h₂ x → ¬ Own σ₂ h' x := fun x hx no => by
      rintro (⟨ob, e⟩ | ⟨a, c, fs, e, dd⟩)
      · exact no (.inl ⟨ob, e⟩)
      · obtain ⟨ob, ho⟩ := (S₂.cell a _ e).there
        exact no (.inr ⟨a, c, fs, e, dd.keep ho (e4 _ _ ho)⟩)
    have S₃ := (S₂.keep e4).freeze f1 a1 a2 a3 (own' _ n1 a5)
    have Z1 : Zle z₂ (z₂.set h₂.objs.size oi) := Zle.set a1
    have b1' : (z₂.set h₂.objs.size oi) (h₂.objs.size + 1) = none := by rw [Fz.set_ne _ _ ne12]; exact b1
    have S₄ := S₃.freeze e1 b1' b2 b3 (own' _ n2 b5)
    have Z := Z1.trans (Zle.set (o := enumObj .none h₂.objs.size 0 .none) b1')
    have zn : ∀ x, z₂ x = none → z₀ x = none := fun x hx => by
      cases q : z₀ x with
      | none => rfl
      | some ob => rw [hz02 _ _ q] at hx; cases hx
    refine rwg (folded_no rfl) ?_
    refine wpC_bind (wpC_pure (wpC_bind (wpC_standAt (wpC_bind (wpC_holding (wpC_of (wpAny_pyIter_enum e1 ?_)))))))
    have hz3 := (hz₁.trans hz₂).trans Z
    refine for_tail hA hf (iter_enum hh ne12 (src _ Z.t)) ht hb (hz02.trans Z) (fun a e => ?_) (Tle.refl _) ⟨⟨oi, ?_, f2, f3⟩, .none, Fz.set_self ..⟩ (H.mono hz3) S₄ hX q₃ (hQ.mono hz3.t) (hE.mono hz3.t)
    · rcases e with rfl | rfl
      · exact zn _ a1
      · exact zn _ b1
    · rw [Fz.set_ne _ _ (Ne.symm ne12)]; exact Fz.set_self ..
  · exact q₂.elim
end
end Mine
end
section
namespace Mine
section
variable {C : Cx} {base : Heap} {A : Around} {l : List Env} {z z' fr : Fz} {σ : Store} {h : Heap} {env : Env} {mg mb : Str → Option Value} {n : Nat} {call : CallT}
theorem callee_bi {f : Value} {first : List Value} {tr : List V → Tr V} (hf : ∀ a, f ≠ .ref a)
    (hc : ∀ z₁ args vals σ h k g d os (Q : V → Store → Prop), Zle z z₁ → VRs C z₁ args vals → (∃ X, tr args σ Q X) → Sim C base z₁ fr σ h → ∀ (Q' : Value → Shared → Prop) (E' : Value → Shared → Prop),
      PostR C base z₁ fr g d os (VR C) Q Q' → wpC (model C.prog C.w) A (PySem.call f (first ++ vals) []) Q' E' ⟨h, g, d, k, os⟩) : Callee C base l z fr A f first tr := by
  intro z₁ args vals σ h k g d os Q X hz rv q S hX
  refine ⟨⟨.machine, .inr rfl, Looks.of_pure ?_⟩, fun Q' E' hQ hE => hc z₁ args vals σ h k g d os Q hz rv ⟨X, q⟩ S Q' E' hQ⟩
  cases f <;> first | rfl | exact absurd rfl (hf _)
theorem callee_append {r : Addr} : Callee C base l z fr A (.builtin "list.append") [.ref r] (fun args σ Q u_ => wMethB σ .append (.ref r) args Q) := by
  refine callee_bi (fun u_ => nofun) fun z₁ args vals σ h k g d os Q hz rv q S Q' E' hQ => ?_
  obtain ⟨_, o, rr, q⟩ := q
  cases rr with
  | append _ vs v hr hl =>
    refine rv.one fun w r1 => ?_
    obtain ⟨ws, m, e1, e2⟩ := S.cell r _ hr
    have ln := e2.length
    simp only [Array.length_toList] at ln
    refine wpC_of (PySem.call_meets (s := ⟨h, g, d, k, os⟩) PySem.F.slot_list_append ⟨_, e1, rfl⟩ PySem.F.entry_list_append (PySem.F.args_list_append_2 _ _) (PySem.AutoListH.list_append_list_val_0 r ws m w (by rw [sizeLine_eq]; lia)) ⟨e1, ?_⟩)
    refine hQ z₁ _ .none .none _ _ (Zle.refl _) ?_ VR.none q
    refine S.updCell hr (fun u_ u_ => nofun) (fun u_ u_ => nofun) (fun x ob hx e => upd_ne hx e) ⟨ws.push w, _, Heap.get?_update_self _ e1 rfl, ?_⟩
    rw [Array.toList_push]; exact e2.append (VRs.cons r1 VRs.nil)
theorem callee_extend {r : Addr} : Callee C base l z fr A (.builtin "bytearray.extend") [.ref r] (fun args σ Q u_ => wMethB σ .extend (.ref r) args Q) := by
  refine callee_bi (fun u_ => nofun) fun z₁ args vals σ h k g d os Q hz rv q S Q' E' hQ => ?_
  obtain ⟨_, o, rr, q⟩ := q
  cases rr with
  | extend _ b c hr hl =>
    refine rv.one fun w r1 => ?_
    refine r1.bytes_e fun t => ?_
    have hc : h.get? r = some (baObj b.toArray) := S.cell r _ hr
    refine extend_C (s := ⟨h, g, d, k, os⟩) hc (by rw [sizeLine_eq]; simp; exact Nat.le_trans (by assumption) (Nat.le_of_ble_eq_true rfl)) fun h' h1 h2 => ?_
    refine hQ z₁ _ .none .none _ _ (Zle.refl _) ?_ VR.none q
    refine S.updCell hr (fun u_ u_ => nofun) (fun u_ u_ => nofun) (fun x ob hx e => (h2.2 x hx).trans e) ?_
    show h'.get? r = some (baObj _)
    rw [h1]; simp
theorem callee_tobytes {x : Int} {t : Tok} : Callee C base l z fr A (.builtin "int.to_bytes") [.int x t] (fun args σ Q u_ => wMethB σ .toBytes (.int x) args Q) := by
  refine callee_bi (fun u_ => nofun) fun z₁ args vals σ h k g d os Q hz rv q S Q' E' hQ => ?_
  obtain ⟨_, o, rr, q⟩ := q
  cases rr with
  | toBytes _ hx =>
    refine rv.two fun w1 w2 r1 r3 => ?_
    refine r1.int_e fun t1 => ?_
    refine r3.str_e fun t2 => ?_
    refine wpC_of (KTBy.to_big (s := ⟨h, g, d, k, os⟩) (k := 4) (B := 4294967296) (by decide) (by decide) hx.1 hx.2 fun b t' k' hb hl => ?_)
    refine hQ z₁ σ (.bytes (bigOf 4 x)) _ h k' (Zle.refl _) S (VR.bytes' _ _ ?_) q
    apply Array.toList_inj.mp
    show b.toList = bigOf 4 x
    unfold bigOf
    refine rwl hb ?_
    show b.toList = List.map _ (List.map _ b.toList)
    refine rwg List.map_map ?_
    conv => lhs; rw [← List.map_id b.toList]
    apply List.map_congr_left
    intro c _
    simp
end
end Mine
end
section
namespace Mine
theorem fb_cls (K : Frag) : findCls K (.type "int") (.type "type") (PySem.Str.ofString "from_bytes") = some (.get (.builtin "classmethod_descriptor.__get__") (.builtin "int.from_bytes") .none (.type "int")) := by
  first | rfl | kernel_rfl
section
variable {C : Cx} {base : Heap} {A : Around} {l : List Env} {z z' fr : Fz} {σ : Store} {h : Heap} {env : Env} {mg mb : Str → Option Value} {n : Nat} {call : CallT}
variable {prog : Program} {w : World} {E : Value → Shared → Prop} {s : Shared} {K : Frag}
theorem getm_fb {pl : Sem Bool} {Q : Value × List Value → Shared → Prop} (X : K.In s.heap)
    (h : Q (.ref s.heap.objs.size, []) { s with heap := s.heap.push KFB.bound, toks := s.toks + 1 }) : wpAny (model prog w) A (getMethod (.type "int") (PySem.Str.ofString "from_bytes") pl) Q E s := by
  have hstub : opaqueClassAbove (.type "int") = pure none := by unfold opaqueClassAbove; dsimp only; rw [show Manifest.isStub "int" = false by decide +kernel]; rfl
  have ht : typeOf (.type "int") = pure (.type "type") := by first | rfl | kernel_rfl
  have L0 : Looks (model prog w) s.heap (typeOf (.type "int")) (.type "type") := Looks.of_pure ht
  have hg : findIn K (.type "type") "__getattribute__" = some (some (.builtin "type.__getattribute__")) := type_tga
  unfold getMethod specialOf
  refine wpAny_bind (wpAny_bind (L0.here ((looks_findIn X hg).here ?_)))
  refine wpAny_pos canon_tga ?_
  refine wpAny_bind (wpAny_mono (Q := fun v => Q (v, [])) (E := E) ?_ (fun u_ u_ z => wpAny_pure z) fun u_ u_ z => z)
  have LO : Looks (model prog w) s.heap (opaqueClassAbove (.type "int")) none := Looks.of_pure hstub
  refine cls_open X LO L0 hg (looks_hook X (r := none) (by rfl)) (by show subIn K _ _ = _; rfl) (fb_cls K) ?_
  refine wpAny_bind (wpAny_holding (wpAny_call_entry KFB.slot_get KFB.type_fb KFB.entry_get (KFB.run_get ⟨_, rfl, wpAny_pure (wpAny_pure h)⟩) (KFB.args_get _ _ _)))
theorem callee_frombytes {x : Addr} (hx : z x = some KFB.bound) : Callee C base l z fr A (.ref x) [] (fun args σ Q u_ => wMethB σ .fromBytes (.bi (.type "int")) args Q) := by
  intro z₁ args vals σ h k g d os Q X hz rv q S hX
  have hx' := (S.fz x _ (hz _ _ hx)).1
  refine ⟨⟨.machine, .inr rfl, (Looks.ld hx').andThen (Looks.of_pure rfl)⟩, fun Q' E' hQ hE => ?_⟩
  obtain ⟨o, rr, q⟩ := q
  cases rr with
  | fromBytes b hb =>
    refine rv.two fun w1 w2 r1 r3 => ?_
    refine r1.bytes_e fun t1 => ?_
    refine r3.str_e fun t2 => ?_
    refine wpC_of (KFB.call_of (s := ⟨h, g, d, k, os⟩) (show KFB.StandsAt x h from hx') (fun P => KFB.tree_big (by simpa using hb) P) ?_)
    have e : KFB.value (KBw.bInts b.toArray) = ofBig b := by
      unfold KFB.value ofBig
      show List.foldl _ 0 (List.map _ b) = _
      rw [List.foldl_map]
    refine rwg e ?_
    exact hQ z₁ σ (.int (ofBig b)) _ h _ (Zle.refl _) S (VR.int _ _) q
end
end Mine
end
section
namespace Mine
abbrev JSt := Array (Array UInt8) × List (Value × Option Value)
section
variable {prog : Program} {w : World} {A : Around} {E : Value → Shared → Prop} {s : Shared}
noncomputable def bvals (bs : List (List UInt8 × Tok)) : List Value := bs.map fun p => .bytes p.1.toArray p.2
noncomputable def jst (bs : List (List UInt8 × Tok)) : JSt := ((bs.map fun p => p.1.toArray).toArray, (bvals bs).map fun v => (v, none))
theorem join_loop (f : Nat → JSt → Sem (ForInStep JSt)) (all : List (List UInt8 × Tok))
    (hf : ∀ pre b post, all = pre ++ b :: post → ∀ (Q' : ForInStep JSt → Shared → Prop), Q' (ForInStep.yield (jst (pre ++ [b]))) s → wpAny (model prog w) A (f pre.length (jst pre)) Q' E s) (bs : List (List UInt8 × Tok)) :
    ∀ (pre : List (List UInt8 × Tok)) (Q : JSt → Shared → Prop), all = pre ++ bs → Q (jst all) s → wpAny (model prog w) A (forIn (List.range' pre.length bs.length) (jst pre) f) Q E s := by
  induction bs with
  | nil =>
    intro pre Q e hQ
    rw [e, List.append_nil] at hQ
    exact wpAny_pure hQ
  | cons b bs ih =>
    intro pre Q e hQ
    rw [List.length_cons, List.range'_succ, List.forIn_cons]
    refine wpAny_bind (hf pre b bs e _ ?_)
    have := ih (pre ++ [b]) Q (by rw [e, List.append_assoc]; rfl) hQ
    rwa [List.length_append, List.length_singleton] at this
theorem letGo_join {M : Model} (l : List Value) (keep : List Value) {Q : Unit → Shared → Prop} (h : Q () s) : wpAny M A (Builtin.Bytes.joinLetGo (l.map fun v => (v, none)) keep) Q E s := by
  induction l with
  | nil => exact wpAny_pure h
  | cons v l ih => exact wpAny_bind (wpAny_letGo ih)
theorem joined_nil (parts : List (Array UInt8)) : Builtin.Bytes.joined #[] parts = (parts.map (·.toList)).flatten.toArray := by
  have : ∀ (l : List (Array UInt8 × Nat)) (acc : Array UInt8), l.foldl (fun out (p, i) => (if i > 0 then out ++ #[] else out) ++ p) acc = acc ++ ((l.map (·.1.toList)).flatten).toArray := fun l => by
    induction l with
    | nil => intro acc; simp
    | cons x l ih => intro acc; simp only [List.foldl_cons]; rw [ih]; apply Array.toList_inj.mp; simp
  unfold Builtin.Bytes.joined
  rw [this]
  have e : parts.zipIdx.map (fun x => x.1.toList) = parts.map (·.toList) := by
    rw [show (fun x : Array UInt8 × Nat => x.1.toList) = (fun a : Array UInt8 => a.toList) ∘ Prod.fst from rfl, ← List.map_map, List.zipIdx_map_fst]
  rw [e]; simp
theorem foldl_size (l : List (Array UInt8)) : ∀ n : Nat, l.foldl (· + ·.size) n = n + (l.map (·.toList)).flatten.length := by
  induction l with
  | nil => exact fun u_ => rfl
  | cons a l ih => intro n; rw [List.foldl_cons, ih, List.map_cons, List.flatten_cons, List.length_append, Nat.add_assoc]; rfl
theorem any_heap (pre : List (List UInt8 × Tok)) : ((jst pre).2.any fun x => x.1.onHeap) = false := by
  unfold jst bvals
  simp [List.any_eq_false, Value.onHeap]
theorem join_tree {la : Addr} {ol : Obj} {bs : List (List UInt8 × Tok)} {m : Nat} {t : Tok} {Q : Fin → Shared → Prop} (hl : s.heap.get? la = some ol) (hc : ol.cls = .type "list") (hd : ol.data = .seq (bvals bs).toArray m) (hz : (bs.map (·.1)).flatten.length ≤ sizeLine)
    (h : ∀ t' k', Q (.done (.ret (.bytes (bs.map (·.1)).flatten.toArray t'))) { s with toks := k' }) : wpAny (model prog w) A (Builtin.«bytes.join» ⟨[.bytes #[] t, .ref la], []⟩) Q E s := by
  have hL : s.heap.IsList la (bvals bs).toArray := ⟨_, hl, hc, m, hd⟩
  unfold Builtin.«bytes.join» Builtin.Bytes.joinM
  refine wpAny_bind (wpAny_of_eq (a := (.bytes #[] t, .ref la)) rfl ?_)
  refine wpAny_bind ?_
  unfold Builtin.Bytes.joinItems
  refine wpAny_bind (wpAny_typeOf hL.typeIs ?_)
  refine wpAny_pos (by decide) ?_
  refine wpAny_pure ?_
  refine wpAny_bind (wpAny_seqItems hl hd ?_)
  refine wpAny_pos (by decide) ?_
  have rest : ∀ (f : Nat → JSt → Sem (ForInStep JSt)) (k : JSt → Sem Fin), (∀ pre b post, bs = pre ++ b :: post → ∀ (Q' : ForInStep JSt → Shared → Prop), Q' (ForInStep.yield (jst (pre ++ [b]))) s → wpAny (model prog w) A (f pre.length (jst pre)) Q' E s) →
      wpAny (model prog w) A (k (jst bs)) Q E s → wpAny (model prog w) A (forIn [:(bvals bs).toArray.size] ((#[], []) : JSt) f >>= k) Q E s := by
    intro f k hf hk
    refine wpAny_bind ?_
    rw [Std.Legacy.Range.forIn_eq_forIn_range']
    have e : [:(bvals bs).toArray.size].size = bs.length := by simp [Std.Legacy.Range.size, bvals]
    rw [e]
    exact join_loop f bs hf bs [] _ rfl hk
  have step : ∀ pre b post, bs = pre ++ b :: post → (bvals bs).toArray.getD pre.length Value.none = .bytes b.1.toArray b.2 := fun pre b post e => by
    rw [e]; simp [bvals, Array.getD]
  have next : ∀ pre b, ((jst pre).1.push b.1.toArray, (jst pre).2 ++ [(Value.bytes b.1.toArray b.2, (none : Option Value))]) = jst (pre ++ [b]) := fun pre b => by
    unfold jst bvals; simp
  have fin : ∀ (st : JSt), st = jst bs → wpAny (model prog w) A (do
      let sep ← Builtin.Bytes.payload (.bytes #[] t)
      if Builtin.Bytes.tooLong (st.1.foldl (· + ·.size) (sep.size * (st.1.size - 1))) then unsupported s!"{s!"{Builtin.Bytes.Kind.bytes.name}.join"}:memory"
      let result ← Builtin.Bytes.Kind.bytes.new (Builtin.Bytes.joined sep st.1.toList)
      holding (result :: st.2.flatMap fun (y, u) => y :: u.toList) point
      Builtin.Bytes.joinLetGo st.2 [result]
      ret result) Q E s := by
    rintro st rfl
    refine wpAny_bind (wpAny_of_eq (a := #[]) rfl ?_)
    have e0 : (jst bs).1.toList = bs.map fun p => p.1.toArray := by simp [jst]
    have e1 : (((jst bs).1.toList).map (·.toList)).flatten = (bs.map (·.1)).flatten := by rw [e0, List.map_map]; rfl
    have e2 : Builtin.Bytes.tooLong ((jst bs).1.foldl (· + ·.size) ((#[] : Array UInt8).size * ((jst bs).1.size - 1))) = false := by
      unfold Builtin.Bytes.tooLong
      rw [← Array.foldl_toList, foldl_size, e1]
      simp only [List.size_toArray, List.length_nil, Nat.zero_mul, Nat.zero_add, decide_eq_false_iff_not, Nat.not_lt]
      exact hz
    rw [if_neg (by rw [e2]; decide), joined_nil, e1]
    refine wpAny_bind (wpAny_mkBytes ?_ (by simpa using hz))
    refine wpAny_bind (wpAny_holding (wpAny_point ?_))
    refine wpAny_bind ?_
    exact letGo_join _ _ (wpAny_pure (h _ _))
  rcases bs with _ | ⟨b, _ | ⟨b2, r⟩⟩
  · exact rest _ _ (fun pre b post e => by simp at e) (fin _ rfl)
  · refine wpAny_bind (wpAny_of_eq (a := .type "bytes") rfl ?_)
    refine wpAny_pos (by decide) ?_
    refine wpAny_bind (wpAny_rule (wpAny_pure ?_))
    have := h b.2 s.toks
    simp only [List.map_cons, List.map_nil, List.flatten_cons, List.flatten_nil, List.append_nil] at this
    exact this
  · refine rest _ _ (fun pre b post e Q' hq => ?_) (fin _ rfl)
    refine wpAny_bind (wpAny_seqItems hl hd ?_)
    dsimp only
    rw [if_neg (by rw [any_heap]; decide), step pre b post e]
    refine wpAny_bind (wpAny_holding (wpAny_of_eq (take_eq _ _ _) ?_))
    refine wpAny_bind (wpAny_seqItems hl hd ?_)
    refine wpAny_neg (by simp) ?_
    rw [next pre b]
    exact wpAny_pure hq
end
end Mine
end
section
namespace Mine
theorem bytes_ga : ∃ ga, typeLookup (.type "bytes") "__getattribute__" = pure (some (.builtin ga)) ∧ (Manifest.canonical ga != "object.__getattribute__") = false := FB.plainAttrs_bytes.1
theorem slot_bytes_join : Slot "bytes" "join" "bytes.join" :=
  .of (owner := "bytes") (n := "join") (by rw [typeLookup_type, builtinLookup_eq_fast]; kernel_rfl) (by decide +kernel) (by decide +kernel) (by decide +kernel)
    (by first | exact .inl (by decide +kernel) | exact .inr (by decide +kernel)) (by rw [isSubtype_type]; kernel_rfl)
theorem entry_bytes_join : entryFor table "bytes.join" = some Builtin.«bytes.join» := entryFor_of_tree (by kernel_rfl)
theorem args_bytes_join (a b : Value) : argsOk "bytes.join" ⟨[a, b], []⟩ := by unfold argsOk; kernel_rfl
theorem type_bytes_join : typeOf (.builtin "bytes.join") = pure (.type "method_descriptor") := by show builtinType _ = _; rw [builtinType_eq_fast]; kernel_rfl
section
variable {C : Cx} {base : Heap} {A : Around} {l : List Env} {z z' fr : Fz} {σ : Store} {h : Heap} {env : Env} {mg mb : Str → Option Value} {n : Nat} {call : CallT}
theorem vrs_bytes {bs : List (List UInt8)} : ∀ {ws : List Value}, VRs C z (bs.map V.bytes) ws → ∃ ps : List (List UInt8 × Tok), ws = bvals ps ∧ ps.map (·.1) = bs := by
  induction bs with
  | nil => exact fun r => ⟨[], r.inv0, rfl⟩
  | cons b bs ih =>
    intro ws r
    obtain ⟨w, ws', rfl, r1, r2⟩ := r.inv
    refine r1.bytes_e fun t => ?_
    obtain ⟨ps, rfl, e⟩ := ih r2
    exact ⟨(b, t) :: ps, rfl, congrArg (b :: ·) e⟩
theorem callee_join {t : Tok} : Callee C base l z fr A (.builtin "bytes.join") [.bytes #[] t] (fun args σ Q u_ => wMethB σ .join (.bytes []) args Q) := by
  refine callee_bi (fun u_ => nofun) fun z₁ args vals σ h k g d os Q hz rv q S Q' E' hQ => ?_
  obtain ⟨_, o, rr, q⟩ := q
  cases rr with
  | join bs hb =>
    refine rv.one fun w r1 => ?_
    obtain ⟨la, ol, ws, m, rfl, hz', hc, hd, hs⟩ := r1.list_inv
    obtain ⟨ps, e1, e2⟩ := vrs_bytes hs
    have hl := (S.fz la _ hz').1
    have : ws = (bvals ps).toArray := by rw [← e1]
    rw [this] at hd
    refine wpC_of (wpAny_call_entry (s := ⟨h, g, d, k, os⟩) slot_bytes_join (typeIs_bytes _ _ _) entry_bytes_join (join_tree hl hc hd (by have := hb.2; rw [e2, sizeLine_eq]; exact Nat.le_trans (by assumption) (Nat.le_of_ble_eq_true rfl)) fun t' k' => ⟨_, rfl, ?_⟩) (args_bytes_join _ _))
    refine rwg e2 ?_
    exact hQ z₁ σ (.bytes bs.flatten) _ h k' (Zle.refl _) S (VR.bytes _ _) q
theorem op_sel (F : Facts C base mg mb) (ok : CallOk C n call) (a : AOk A l fr) (r : Room A (n + 1)) (hh : HOk base A) {g : Array GenState} {d : Drawn} {k : Tok} {os : OsState} {o : V} {ov : Value} {nm : String} {pl : Sem Bool} {K : Sel → Prop}
    (S : Sim C base z fr σ h) (ro : VR C z o ov) (q : selOf σ o nm K) {Q' : Value × List Value → Shared → Prop} {E' : Value → Shared → Prop}
    (hQ : ∀ s z' f first h' k', Zle z z' → Sim C base z' fr σ h' → Callee C base l z' fr A f first (fun args => wSel call s o args) → K s → Q' (f, first) ⟨h', g, d, k', os⟩) :
    wpAny (model C.prog C.w) A (getMethod ov (Str.ofString nm) pl) Q' E' ⟨h, g, d, k, os⟩ := by
  obtain ⟨s, rr, q⟩ := q
  cases rr with
  | fn r0 c fs _ f hr e1 e2 =>
    refine ro.ref_e ?_
    obtain ⟨dd, es, m, h2, hd, h3, I⟩ := inst_at S hr
    obtain ⟨f1, f2⟩ := F.meth c nm f e1
    have X : C.K.In h := F.inn.keeps S.bas
    unfold plainGet at f1
    simp only [Bool.and_eq_true, beq_iff_eq] at f1
    obtain ⟨p1, p2⟩ := f1
    have ty : typeIn C.K (.ref (C.fnA f)) = some (.type "function") := by
      have := (F.fn f).1
      unfold isFn at this
      exact beq_iff_eq.mp this
    have sh : shadowIn (some (dictOf es m)) (Str.ofString nm) = some false := by
      refine foldg fun G0 fin0 => ?_
      rcases getF_L h3 nm with ⟨_, x⟩ | ⟨v, val, x, _, _⟩
      · refine fin0 ?_
        show (lookIn (Str.ofString nm) (dictOf es m)).map (·.isSome) = some false
        have : lookIn (Str.ofString nm) (dictOf es m) = some none := by
          first
            | exact x
            | (simp only [lookIn, dictOf]; exact x)
        rw [this]; rfl
      · refine fin0 ?_
        rw [e2] at x; cases x
    refine method_fn (s := ⟨h, g, d, k, os⟩) X I p1 p2 f2 ty sh ?_
    exact hQ (.fn f) z _ _ h k (Zle.refl _) S (callee_fn F ok a r hh f (VRs.cons (VR.ref r0) VRs.nil)) q
  | append r0 vs hr =>
    refine ro.ref_e ?_
    obtain ⟨ws, m, e1, _⟩ := S.cell r0 _ hr
    refine PySem.Calls.getMethod_list_append (s := ⟨h, g, d, k, os⟩) e1 rfl rfl ?_
    exact hQ (.bi .append) z _ _ h k (Zle.refl _) S callee_append q
  | extend r0 b hr =>
    refine ro.ref_e ?_
    have hc : h.get? r0 = some (baObj b.toArray) := S.cell r0 _ hr
    refine getMethod_builtin (s := ⟨h, g, d, k, os⟩) (T := "bytearray") ⟨_, hc, rfl⟩ plainAttrs_ba slot_ba_extend type_ba_extend (fun b e => by cases e; exact ⟨_, hc, rfl⟩) ?_
    exact hQ (.bi .extend) z _ _ h k (Zle.refl _) S callee_extend q
  | join =>
    refine ro.bytes_e fun t => ?_
    obtain ⟨ga, g1, g2⟩ := bytes_ga
    refine getMethod_value (s := ⟨h, g, d, k, os⟩) (T := "bytes") (typeIs_bytes _ _ _) (by intro _ x; cases x) g1 g2 FB.plainAttrs_bytes.2 slot_bytes_join.lookup type_bytes_join ?_
    exact hQ (.bi .join) z _ _ h k (Zle.refl _) S callee_join q
  | toBytes i =>
    refine ro.int_e fun t => ?_
    refine KTBy.method (s := ⟨h, g, d, k, os⟩) ?_
    exact hQ (.bi .toBytes) z _ _ h k (Zle.refl _) S callee_tobytes q
  | fromBytes =>
    have := ro.bi_inv; subst this
    refine getm_fb (s := ⟨h, g, d, k, os⟩) (F.inn.keeps S.bas) ?_
    obtain ⟨S', Z, _⟩ := S.pushZ KFB.bound
    exact hQ (.bi .fromBytes) _ _ _ _ _ Z S' (callee_frombytes (Fz.set_self ..)) q
theorem ref_meth (F : Facts C base mg mb) (ok : CallOk C n call) (a : AOk A l fr) (r : Room A (n + 1)) (hh : HOk base A) {x : PySem.Expr} {nm : String} {m : Str} {xs : List PySem.Expr} {apos pos : Pos} {fo : Tr V} {fes : Tr (List V)}
    (hm : Str.ofString nm = m) (hs : notSuper x = true) (hpos : (apos.endLine == pos.line) = true) (hlen : xs.length < 20) (hp : ∀ pos, (backTo pos (starEach xs env)).any (·.1) = false)
    (ha : Ref C base l z fr A (eval x env) fo (VR C)) (hb : RefEs C base l z fr A xs env fes) : Ref C base l z fr A (eval (.Call (.Attribute x m apos) xs [] pos) env) (cMeth call fo nm fes) (VR C) := by
  intro z₁ σ h k g d os Q X hz q S hX Q' E' hQ hE
  subst hm
  show wpC _ _ (do
    let ov ← attributeBase x (Str.ofString nm) env (eval x env)
    standAt apos.atName
    methodCall x (Str.ofString nm) apos pos env ov (xs.length + 0) (backTo pos (starEach xs env)) []) _ _ _
  refine rwg (base_whole hs) ?_
  refine wpC_bind (ha z₁ σ h k g d os _ X hz q S hX _ _ (fun z₂ σ₂ vo ov h₂ k₂ hz₂ S₂ ro q₂ => ?_) hE)
  refine wpC_bind (wpC_standAt ?_)
  unfold methodCall
  have form : methodCallForm (xs.length + 0) (backTo pos (starEach xs env)) [] = true := by
    unfold methodCallForm
    have : (backTo pos (starEach xs env)).all (fun p => !p.1) = true := by
      have := hp pos
      refine rwg List.all_eq_not_any_not ?_
      simpa using this
    simp only [this, List.all_nil, Bool.true_and, List.isEmpty_nil, if_true, decide_eq_true_eq]
    exact Nat.lt_of_lt_of_le (by assumption) (Nat.le_of_ble_eq_true rfl)
  refine rwg form ?_
  refine wpC_bind (wpC_holding (wpC_of ?_))
  refine op_sel (F := F) (ok := ok) (l := l) (a := a) (r := r) (hh := hh) S₂ ro q₂ fun s z' f first h' k' hz' S' c qs => ?_
  unfold methodCallPos
  rw [if_pos (by rw [hpos]; rfl)]
  refine wpC_bind (wpC_pure ?_)
  have hz2 := hz₂.trans hz'
  exact c.with (hp pos) (fun pos => (hb pos).mono (hz.trans hz2)) z' σ₂ h' k' g d os Q X (Zle.refl _) qs S' hX Q' E' (hQ.mono hz2) (hE.mono hz2)
end
end Mine
end
section
namespace Mine
noncomputable def heldAt (A : Around) : List Addr := match A.handled with | some (.ref c) => [c] | _ => []
theorem heldAt_mem {A : Around} {c : Addr} (h : A.handled = some (.ref c)) : c ∈ heldAt A := by unfold heldAt; rw [h]; simp
theorem walks_tuple {prog : Program} {w : World} {A : Around} (I ax : Addr) (hne : ax ≠ I) (hI : ∀ c, A.handled = some (.ref c) → c ≠ I) (items : Array Value) :
    Walks prog w A I (I :: ax :: heldAt A) [I] items.size (fun i v => items[i]? = some v) (fun i h => h.IsTupleIter I ax i ∧ h.IsTuple ax items ∧ HeldOk A h) where
  sub := fun b hb => by simp at hb; simp [hb]
  frame := fun u_ u_ u_ st hk => ⟨st.1.at fun o e => hk I (by simp) o e, st.2.1.at fun o e => hk ax (by simp) o e, st.2.2.keep fun c o hc e => hk c (by simp [heldAt_mem hc]) o e⟩
  item := fun i s Q E hi st hQ => by
    refine wpAny_pyNext_tuple_item st.1 st.2.1 (x := items[i]) (by simp [hi]) fun h' hit' hs' => ?_
    exact hQ _ h' s.toks (by simp [hi]) ⟨hit', st.2.1.extBut hs'.extBut hne, st.2.2.keep fun c o hc e => hs'.extBut c o (hI c hc) e⟩ fun b o hb e => hs'.extBut b o (fun h => hb (by simp [h])) e
  done := fun s Q E st hQ => next_tuple_end st.2.2 hI st.1 st.2.1 (by simp) fun h' he' u_ => hQ h' s.toks fun b o hb e => he' b o (fun h => hb (by simp [h])) e
  self := fun u_ u_ u_ u_ st hQ => wpAny_pyIter_tupleiter st.1 hQ
section
variable {prog : Program} {w : World} {A : Around} {E : Value → Shared → Prop} {s : Shared}
theorem max_two {a b : Int} {t u : Tok} {Q : Value → Shared → Prop} (hh : HeldOk A s.heap)
    (h : ∀ h' tk, (∀ c o, s.heap.get? c = some o → h'.get? c = some o) → Q (if b > a then .int b u else .int a t) { s with heap := h', toks := tk }) :
    wpAny (model prog w) A (call (.builtin "max") [.int a t, .int b u]) Q E s := by
  have hT : (s.heap.push { cls := .type "tuple", data := .seq #[.int a t, .int b u] }).IsTuple s.heap.objs.size (intItems #[(a, t), (b, u)]) := ⟨_, Heap.get?_push_size _ rfl, rfl, 0, by simp [intItems]⟩
  have hlt : ∀ c, A.handled = some (.ref c) → c < s.heap.objs.size := fun c hc => by
    rcases hh with hh | ⟨e, o, vs, h1, h2, _⟩
    · rw [hh] at hc; cases hc
    · rw [h1] at hc; cases hc; exact Heap.lt_size h2
  have hsz : (s.heap.push { cls := .type "tuple", data := .seq #[.int a t, .int b u] }).objs.size = s.heap.objs.size + 1 := Heap.size_push ..
  refine call_max_two (wpAny_pyIter_tuple hT ?_)
  refine ⟨_, _, [_], _, _, _, _, rfl, walks_tuple (A := A.in1) _ s.heap.objs.size (by rw [hsz]; exact Nat.ne_of_lt (Nat.lt_succ_self _)) (fun c hc => by
      rw [hsz]; exact Nat.ne_of_lt (Nat.lt_succ_of_lt (hlt c hc))) (intItems #[(a, t), (b, u)]),
    ⟨⟨_, Heap.get?_push_size _ rfl, rfl, rfl⟩, hT.push _, hh.keep fun c o u_ e => Heap.get?_push_of_some _ (Heap.get?_push_of_some _ e)⟩, fun c hc => ?_, by simp [intItems], CmpOf.ints_gt (numAt #[(a, t), (b, u)]) (fun u_ u_ => intItems_at), fun v h' tk hP hk => ?_⟩
  · show c < ((s.heap.push _).push _).objs.size
    rw [Heap.size_push, hsz]
    rcases List.mem_cons.mp hc with rfl | hc
    · rw [hsz]; exact Nat.lt_succ_self _
    · rcases List.mem_cons.mp hc with rfl | hc
      · exact Nat.lt_succ_of_lt (Nat.lt_succ_self _)
      · unfold heldAt at hc
        split at hc
        · rename_i c' hc'
          simp only [List.mem_singleton] at hc
          subst hc
          have := hlt c hc'
          exact Nat.lt_succ_of_lt (Nat.lt_succ_of_lt this)
        · cases hc
  · have hold : ∀ c o, s.heap.get? c = some o → h'.get? c = some o := fun c o e => by
      refine hk c o (fun hm => ?_) (Heap.get?_push_of_some _ (Heap.get?_push_of_some _ e))
      rcases List.mem_cons.mp hm with e1 | hm
      · have := Heap.lt_size e; rw [e1, hsz] at this; exact Nat.lt_irrefl _ (Nat.lt_of_succ_lt this)
      · cases hm
    have := h h' tk hold
    have hv : v = if b > a then Value.int b u else Value.int a t := by
      have hP' : (intItems #[(a, t), (b, u)])[argBest (fun i j => decide (numAt #[(a, t), (b, u)] i > numAt #[(a, t), (b, u)] j)) 1]? = some v := by
        have hsz2 : (intItems #[(a, t), (b, u)]).size - 1 = 1 := by simp [intItems]
        rw [← hsz2]; exact hP
      by_cases hba : b > a
      · have e : argBest (fun i j => decide (numAt #[(a, t), (b, u)] i > numAt #[(a, t), (b, u)] j)) 1 = 1 := by simp [argBest, numAt, hba]
        rw [e] at hP'
        simpa [intItems, hba] using hP'.symm
      · have e : argBest (fun i j => decide (numAt #[(a, t), (b, u)] i > numAt #[(a, t), (b, u)] j)) 1 = 0 := by simp [argBest, numAt, hba]
        rw [e] at hP'
        simpa [intItems, hba] using hP'.symm
    rw [hv]; exact this
end
end Mine
end
section
namespace Mine
theorem bytes_bytes : typeLookup (.type "bytes") "__bytes__" = pure (some (.builtin "bytes.__bytes__")) := by rw [typeLookup_type, builtinLookup_eq_fast]; kernel_rfl
theorem int_nobytes : typeLookup (.type "int") "__bytes__" = pure none := by rw [typeLookup_type, builtinLookup_eq_fast]; kernel_rfl
theorem ba_nobytes : typeLookup (.type "bytearray") "__bytes__" = pure none := by rw [typeLookup_type, builtinLookup_eq_fast]; kernel_rfl
theorem ba_noidx : typeLookup (.type "bytearray") "__index__" = pure none := by rw [typeLookup_type, builtinLookup_eq_fast]; kernel_rfl
section
variable {prog : Program} {w : World} {A : Around} {E : Value → Shared → Prop} {s : Shared} {Q : Value → Shared → Prop}
theorem call_bytes {x : Value} (hnew : codeAny (model prog w) A.in1 (.call (.builtin "bytes.__new__") ⟨[.type "bytes", x], []⟩) (wants (fun obj s₁ => s₁.TypeIs obj "bytes" ∧ Q obj s₁) E) s) :
    wpAny (model prog w) A (call (.type "bytes") [x]) Q E s := by
  refine callType_codes (Q₁ := fun obj s₁ => s₁.TypeIs obj "bytes" ∧ Q obj s₁) F.bm_called (F.bm_typeCall _) F.entry_object_init hnew fun obj s₁ h₁ => ?_
  exact ⟨h₁.1, F.args_object_init_2 obj _, object_init_meets F.bm_called.init.lookup F.bm_called.made (by decide) prog w A.in1 _ s₁ ⟨h₁.1, rfl, h₁.2⟩⟩
theorem new_bytes {b : Array UInt8} {t : Tok} (h : Q (.bytes b t) s) : codeAny (model prog w) A (.call (.builtin "bytes.__new__") ⟨[.type "bytes", .bytes b t], []⟩) (wants Q E) s := by
  refine codeAny_of_tree ?_
  show wpAny _ A.in1 (do checkBuiltinCall "bytes.__new__" ⟨[.type "bytes", .bytes b t], []⟩; again (.builtin "bytes.__new__" ⟨[.type "bytes", .bytes b t], []⟩)) _ _ s
  refine wpAny_bind (wpAny_of_eq (F.bm_newCall _) (wpAny_pure ⟨plainId_quiet F.bm_plain _, codeAny_builtin F.bm_entry ?_⟩))
  refine rwg (Around.under_plainId F.bm_plain _) ?_
  unfold Builtin.«bytes.__new__»
  refine wpAny_bind (wpAny_of_eq (a := true) rfl ?_)
  refine bm_if_false rfl ?_
  refine wpAny_bind (wpAny_of_eq F.bm_sub ?_)
  refine bm_if_false rfl ?_
  refine wpAny_bind (wpAny_of_eq (F.bm_bind _) ?_)
  refine wpAny_bind (wpAny_of_eq (a := ()) rfl ?_)
  refine wpAny_bind (wpAny_of_eq (a := ()) rfl ?_)
  refine bm_if_false rfl ?_
  refine wpAny_bind (wpAny_of_eq (KBy.special_eq bytes_bytes) ?_)
  refine wpAny_bind (wpAny_rule (wpAny_bind (wpAny_of_eq (a := .type "bytes") rfl ?_)))
  refine bm_if_true rfl ?_
  exact wpAny_pure h
theorem new_int {n : Int} {t : Tok} (h0 : 0 ≤ n) (h1 : n ≤ 1000000) (h : ∀ t' k', Q (.bytes (Array.replicate n.toNat 0) t') { s with toks := k' }) : codeAny (model prog w) A (.call (.builtin "bytes.__new__") ⟨[.type "bytes", .int n t], []⟩) (wants Q E) s := by
  refine codeAny_of_tree ?_
  refine wpAny_bind (wpAny_of_eq (F.bm_newCall _) (wpAny_pure ⟨plainId_quiet F.bm_plain _, codeAny_builtin F.bm_entry ?_⟩))
  refine rwg (Around.under_plainId F.bm_plain _) ?_
  unfold Builtin.«bytes.__new__»
  refine wpAny_bind (wpAny_of_eq (a := true) rfl ?_)
  refine bm_if_false rfl ?_
  refine wpAny_bind (wpAny_of_eq F.bm_sub ?_)
  refine bm_if_false rfl ?_
  refine wpAny_bind (wpAny_of_eq (F.bm_bind _) ?_)
  refine wpAny_bind (wpAny_of_eq (a := ()) rfl ?_)
  refine wpAny_bind (wpAny_of_eq (a := ()) rfl ?_)
  refine bm_if_false rfl ?_
  refine wpAny_bind (wpAny_specialOf (T := "int") (typeIs_int _ _ _) int_nobytes ?_)
  refine wpAny_bind (wpAny_of_eq (a := false) rfl ?_)
  refine bm_if_false rfl ?_
  refine wpAny_bind (wpAny_specialOf (T := "int") (typeIs_int _ _ _) F.slot_int_index.lookup ?_)
  refine bm_if_false rfl ?_
  refine wpAny_bind (wpAny_attempt (wpAny_of_eq (a := n) rfl ?_))
  refine wpAny_neg (by simp [Builtin.Bytes.fitsIndex]; lia) ?_
  refine wpAny_neg (by lia) ?_
  refine wpAny_neg (by lia) ?_
  refine wpAny_neg (by simp [Builtin.Bytes.tooLong, sizeLine_eq]; lia) ?_
  refine wpAny_bind (wpAny_rule (wpAny_bind (wpAny_mkBytes ?_ (by simp [sizeLine_eq]; lia))))
  exact wpAny_pure (h _ _)
theorem new_ba {a : Addr} {b : Array UInt8} (ho : s.heap.get? a = some (baObj b)) (hz : b.size ≤ sizeLine) (h : ∀ t' k', Q (.bytes b t') { s with toks := k' }) : codeAny (model prog w) A (.call (.builtin "bytes.__new__") ⟨[.type "bytes", .ref a], []⟩) (wants Q E) s := by
  have hT : s.TypeIs (.ref a) "bytearray" := ⟨_, ho, rfl⟩
  refine codeAny_of_tree ?_
  show wpAny _ A.in1 (do checkBuiltinCall "bytes.__new__" ⟨[.type "bytes", .ref a], []⟩; again (.builtin "bytes.__new__" ⟨[.type "bytes", .ref a], []⟩)) _ _ s
  refine wpAny_bind (wpAny_of_eq (F.bm_newCall _) (wpAny_pure ⟨plainId_quiet F.bm_plain _, codeAny_builtin F.bm_entry ?_⟩))
  refine rwg (Around.under_plainId F.bm_plain _) ?_
  unfold Builtin.«bytes.__new__»
  refine wpAny_bind (wpAny_of_eq (a := true) rfl ?_)
  refine bm_if_false rfl ?_
  refine wpAny_bind (wpAny_of_eq F.bm_sub ?_)
  refine bm_if_false rfl ?_
  refine wpAny_bind (wpAny_of_eq (F.bm_bind _) ?_)
  refine wpAny_bind (wpAny_of_eq (a := ()) rfl ?_)
  refine wpAny_bind (wpAny_of_eq (a := ()) rfl ?_)
  refine bm_if_false rfl ?_
  refine wpAny_bind (wpAny_specialOf hT ba_nobytes ?_)
  refine wpAny_bind (wpAny_bind ?_)
  show wpAny _ _ (load a >>= _) _ _ _
  refine wpAny_bind (wpAny_load ho ?_)
  refine wpAny_pure (wpAny_pure ?_)
  refine bm_if_false rfl ?_
  refine wpAny_bind (wpAny_specialOf hT ba_noidx ?_)
  refine bm_if_true rfl ?_
  first
    | show wpAny _ _ (Builtin.Bytes.buffer? "bytes.__new__" (.ref a) true >>= _) _ _ _
    | (refine wpAny_bind ?_; show wpAny _ _ (Builtin.Bytes.buffer? "bytes.__new__" (.ref a) true >>= _) _ _ _)
  refine wpAny_bind ?_
  unfold Builtin.Bytes.buffer?
  refine wpAny_bind (wpAny_specialOf hT ba_buf ?_)
  dsimp only
  refine wpAny_bind ?_
  unfold Builtin.Bytes.slotIsOwn
  refine wpAny_bind (wpAny_specialOf hT ba_buf ?_)
  have h1 : ("bytearray.__buffer__".endsWith ("." ++ "__buffer__")) = true := by decide +kernel
  have h2 : ("bytearray.__buffer__".dropRight ("__buffer__".length + 1)) = "bytearray" := by decide +kernel
  simp only [h1, h2, Bool.not_true, Bool.false_eq_true, if_false]
  refine wpAny_isInstance hT ba_sub ?_
  simp only [Bool.not_true, Bool.false_eq_true, if_false]
  refine wpAny_bind (wpAny_specialOf hT ba_buf ?_)
  refine wpAny_bind (ba_release ho ?_)
  simp only [Bool.false_eq_true, if_false]
  refine wpAny_bind (pay_ba ho rfl (wpAny_pure ?_))
  refine wpAny_bind (wpAny_rule (wpAny_bind (wpAny_mkBytes ?_ hz)))
  first
    | exact wpAny_pure (h _ _)
    | exact wpAny_pure (wpAny_pure (h _ _))
end
end Mine
end
section
namespace Mine
section
variable {prog : Program} {w : World} {A : Around} {E : Value → Shared → Prop} {s : Shared} {Q : Value → Shared → Prop}
theorem one_loop {R : Result → Shared → Prop} {l I S : Addr} {n : Int} {t : Tok} (hh : HeldOk A s.heap) (hI : ∀ c, A.handled = some (.ref c) → c ≠ I) (hSd : ∀ c, A.handled = some (.ref c) → c ≠ S) (hr : 0 ≤ n ∧ n < 256) (hIS : I ≠ S) (hlI : l ≠ I) (hlS : l ≠ S)
    (hl : s.heap.IsList l #[.int n t]) (hit : s.heap.IsListIter I l 0) (hS : s.heap.get? S = some (baObj #[]))
    (hR : ∀ h' t k', (∀ b o, b ≠ I → b ≠ S → s.heap.get? b = some o → h'.get? b = some o) → R (.ok (.ret (.bytes #[n.toNat.toUInt8] t))) { s with heap := h', toks := k' }) :
    codeAny (model prog w) A (.builtin "bytes.__new__.loop" ⟨[.type "bytes", .ref I, .ref S], []⟩) R s := by
  refine codeAny_builtin F.bm_entry_loop ?_
  refine rwg (Around.under_plainId F.bm_plain_loop _) ?_
  refine wpAny_bind (wpAny_pyNext_list_item hit hl (x := .int n t) rfl fun h₁ hit₁ hs₁ => ?_)
  refine wpAny_bind (wpAny_holding (wpAny_of_eq (rfl : asIndex (.int n t) = pure n) ?_))
  refine wpAny_bind (wpAny_letGo ?_)
  refine bm_if_false (by simp only [Bool.or_eq_false_iff, decide_eq_false_iff_not]; lia) ?_
  have hS₁ : h₁.get? S = some (baObj #[]) := (hs₁.2 S (Ne.symm hIS)).trans hS
  refine wpAny_bind (write_ba hS₁ (by simp [sizeLine_eq]) fun h₂ hS₂ hs₂ => ?_)
  refine wpAny_pure ⟨plainId_quiet F.bm_plain_loop _, codeAny_builtin F.bm_entry_loop ?_⟩
  refine rwg (Around.under_plainId F.bm_plain_loop _) ?_
  have hit₂ : h₂.IsListIter I l 1 := by obtain ⟨o, e, r⟩ := hit₁; exact ⟨o, (hs₂.2 I hIS).trans e, r⟩
  have hl₂ : h₂.IsList l #[.int n t] := by obtain ⟨o, e, r⟩ := hl; exact ⟨o, (hs₂.2 l hlS).trans ((hs₁.2 l hlI).trans e), r⟩
  refine wpAny_bind (next_list_end (hh.keep fun c o hc e => (hs₂.2 c (hSd c hc)).trans ((hs₁.2 c (hI c hc)).trans e)) hI hit₂ hl₂ rfl fun h₃ k₃ u_ => ?_)
  have hS₃ : h₃.get? S = some (baObj #[n.toNat.toUInt8]) := k₃ S _ (Ne.symm hIS) hS₂
  refine wpAny_bind (pay_ba hS₃ rfl (wpAny_bind (wpAny_mkBytes ?_ (by simp [sizeLine_eq]))))
  refine bm_if_true (by decide) ?_
  first
    | exact wpAny_pure (hR h₃ _ _ fun b o hb hb' e => k₃ b o hb ((hs₂.2 b hb').trans ((hs₁.2 b hb).trans e)))
    | exact wpAny_bind (wpAny_pure (wpAny_pure (hR h₃ _ _ fun b o hb hb' e => k₃ b o hb ((hs₂.2 b hb').trans ((hs₁.2 b hb).trans e)))))
theorem new_one {l : Addr} {n : Int} {t : Tok} (hh : HeldOk A s.heap) (hl : s.heap.IsList l #[.int n t]) (hr : 0 ≤ n ∧ n < 256)
    (hQ : ∀ h' t k, (∀ b o, s.heap.get? b = some o → h'.get? b = some o) → Q (.bytes #[n.toNat.toUInt8] t) { s with heap := h', toks := k }) :
    codeAny (model prog w) A (.call (.builtin "bytes.__new__") ⟨[.type "bytes", .ref l], []⟩) (wants Q E) s := by
  have hT : s.TypeIs (.ref l) "list" := hl.typeIs
  refine foldg fun G0 fin0 => ?_
  obtain ⟨ol, hol, hoc, nl, hod⟩ := id hl
  refine fin0 ?_
  refine codeAny_of_tree ?_
  refine wpAny_bind (wpAny_of_eq (F.bm_newCall _) (wpAny_pure ⟨plainId_quiet F.bm_plain _, codeAny_builtin F.bm_entry ?_⟩))
  refine rwg (Around.under_plainId F.bm_plain _) ?_
  unfold Builtin.«bytes.__new__»
  refine wpAny_bind (wpAny_of_eq (a := true) rfl ?_)
  refine bm_if_false rfl ?_
  refine wpAny_bind (wpAny_of_eq F.bm_sub ?_)
  refine bm_if_false rfl ?_
  refine wpAny_bind (wpAny_of_eq (F.bm_bind _) ?_)
  refine wpAny_bind (wpAny_of_eq (a := ()) rfl ?_)
  refine wpAny_bind (wpAny_of_eq (a := ()) rfl ?_)
  refine bm_if_false rfl ?_
  refine wpAny_bind (wpAny_specialOf hT F.bm_no_bytes ?_)
  refine wpAny_bind (wpAny_bind ?_)
  refine wpAny_bind (wpAny_load hol ?_)
  refine rwg hod ?_
  refine wpAny_pure (wpAny_pure ?_)
  refine bm_if_false rfl ?_
  refine wpAny_bind (wpAny_specialOf hT F.bm_no_index ?_)
  refine bm_if_true rfl ?_
  first
    | show wpAny _ _ (Builtin.Bytes.buffer? "bytes.__new__" (.ref l) true >>= _) _ _ _
    | (refine wpAny_bind ?_; show wpAny _ _ (Builtin.Bytes.buffer? "bytes.__new__" (.ref l) true >>= _) _ _ _)
  refine wpAny_bind ?_
  unfold Builtin.Bytes.buffer?
  refine wpAny_bind (wpAny_specialOf hT F.bm_no_buffer ?_)
  refine wpAny_bind (wpAny_specialOf hT F.bm_no_buffer ?_)
  refine wpAny_pure ?_
  refine wpAny_bind (wpAny_tryCatch (wpAny_pyIter_list hl ?_))
  have hl₁ : (s.heap.push { cls := .type "list_iterator", data := .fields #[.ref l, .int 0 0] }).IsList l #[.int n t] := hl.push _
  have hT₁ : ({ s with heap := s.heap.push { cls := .type "list_iterator", data := .fields #[.ref l, .int 0 0] } } : Shared).TypeIs (.ref l) "list" := Heap.IsList.typeIs (s := { s with heap := s.heap.push { cls := .type "list_iterator", data := .fields #[.ref l, .int 0 0] } }) hl₁
  refine wpAny_bind (wpAny_holding ?_)
  unfold Builtin.Bytes.lengthHint
  refine wpAny_bind (wpAny_specialOf hT₁ slot_list_len.lookup ?_)
  refine rwg F.bm_split ?_
  refine wpAny_bind (wpAny_isInstance hT₁ F.bm_sub_list ?_)
  refine bm_if_false rfl ?_
  refine bm_if_true (by decide +kernel) ?_
  refine wpAny_pure ?_
  refine wpAny_bind ?_
  unfold Builtin.Bytes.newBytearray
  refine wpAny_newObj_type ?_ (Nat.zero_le _)
  have hI : ((s.heap.push { cls := .type "list_iterator", data := .fields #[.ref l, .int 0 0] }).push { cls := .type "bytearray", data := .bytearray #[] }).IsListIter s.heap.objs.size l 0 :=
    ⟨_, Heap.get?_push_of_some _ (Heap.get?_push_size _ rfl), rfl, rfl⟩
  have hlt : l < s.heap.objs.size := Heap.lt_size hol
  have hsz : (s.heap.push { cls := .type "list_iterator", data := .fields #[.ref l, .int 0 0] }).objs.size = s.heap.objs.size + 1 := Heap.size_push _ _
  have hc : ∀ c, A.handled = some (.ref c) → c < s.heap.objs.size := fun c hc => by
    refine foldg fun G0 fin0 => ?_
    rcases hh with hh | ⟨e, o, vs, h1, h2, _⟩
    · refine fin0 ?_
      rw [hh] at hc; cases hc
    · refine fin0 ?_
      rw [h1] at hc; cases hc; exact Heap.lt_size h2
  have main := one_loop (prog := prog) (w := w) (A := A) (R := wants Q E) (l := l) (I := s.heap.objs.size) (S := (s.heap.push { cls := .type "list_iterator", data := .fields #[.ref l, .int 0 0] }).objs.size) (n := n) (t := t)
    (s := { s with heap := (s.heap.push { cls := .type "list_iterator", data := .fields #[.ref l, .int 0 0] }).push { cls := .type "bytearray", data := .bytearray #[] } })
    (hh.keep fun c o u_ e => Heap.get?_push_of_some _ (Heap.get?_push_of_some _ e)) (fun c h => Nat.ne_of_lt (hc c h)) (fun c h => by rw [hsz]; exact Nat.ne_of_lt (Nat.lt_succ_of_lt (hc c h))) hr (by rw [hsz]; exact Nat.ne_of_lt (Nat.lt_succ_self _))
    (Nat.ne_of_lt hlt) (by rw [hsz]; exact Nat.ne_of_lt (Nat.lt_succ_of_lt hlt)) (hl₁.push _) hI (Heap.get?_push_size _ rfl)
    fun h' t k hk => hQ h' t k fun b o e => hk b o (Nat.ne_of_lt (Heap.lt_size e)) (by rw [hsz]; exact Nat.ne_of_lt (Nat.lt_succ_of_lt (Heap.lt_size e))) (Heap.get?_push_of_some _ (Heap.get?_push_of_some _ e))
  first
    | exact wpAny_pure ⟨plainId_quiet F.bm_plain_loop _, main⟩
    | exact wpAny_pure (wpAny_pure ⟨plainId_quiet F.bm_plain_loop _, main⟩)
end
end Mine
end
section
namespace Mine
structure XMakes (M : Model) (h : Heap) (C : Addr) : Prop where
  obj : ∃ oc od cd sl, h.get? C = some ⟨oc, od, .cls cd, sl⟩ ∧ cd.abstract = false ∧ cd.hasDel = false ∧ cd.mro.isEmpty = false ∧ cd.hasDict = true
  made : Looks M h (Bind.madeBy (.ref C)) (some "Exception.__new__")
  base : Looks M h (Bind.staticBase (.ref C)) (.ref C)
  self : Looks M h (isSubtype (.ref C) (.ref C)) true
  exc : Looks M h (isSubtype (.ref C) (.type "Exception")) true
  bas : Looks M h (isSubtype (.ref C) (.type "BaseException")) true
  noA : Looks M h (isSubtype (.ref C) (.type "AttributeError")) false
  noN : Looks M h (isSubtype (.ref C) (.type "NameError")) false
  call : Looks M h (specialOf (.ref C) "__call__") (some (.builtin "type.__call__"))
  typ : Looks M h (isInstance (.ref C) (.type "type")) true
  cls : Looks M h (typeOf (.ref C)) (.type "type")
set_option tactic.hygienic true in
theorem xmakes_of {K : Frag} {M : Model} {h : Heap} (X : K.In h) {C : Addr} (e : exMakesIn K C = true) : XMakes M h C := by
  unfold exMakesIn at e
  split at e
  · rename_i oc od cd sl ho
    simp only [Bool.and_eq_true, Bool.not_eq_true', beq_iff_eq] at e
    obtain ⟨⟨⟨⟨⟨⟨⟨⟨⟨⟨⟨⟨⟨e1, e2⟩, e0⟩, e3⟩, e4⟩, e5⟩, e6⟩, e6'⟩, e9⟩, e10⟩, e11⟩, e7⟩, e8⟩, e12⟩ := e
    have hc : clsIn K C = some cd := by unfold clsIn; rw [ho]
    have hm : Looks M h (mroOf (.ref C)) cd.mro := (looks_clsIn X hc).andThen .now
    obtain ⟨c, l, hl⟩ : ∃ c l, cd.mro = c :: l := by cases q : cd.mro with | nil => rw [q] at e4; cases e4 | cons c l => exact ⟨c, l, rfl⟩
    have made : Looks M h (Bind.madeBy (.ref C)) (some "Exception.__new__") := by
      intro A Q E s k q
      unfold Bind.madeBy
      refine wpAny_bind (hm A _ E s k ?_)
      rw [hl, List.forIn_cons]
      refine wpAny_bind (wpAny_bind (wpAny_bind (wpAny_bind (wpAny_loadPart (k _ _ (X _ _ ho)) (wpAny_pure ?_)))))
      rw [← Array.getElem?_toList, e3]
      exact wpAny_pure (wpAny_pure (wpAny_pure q))
    have sub : ∀ b r, cd.mro.contains b = r → Looks M h (isSubtype (.ref C) b) r := fun b r hb => looks_mroIn X (by unfold mroIn; rw [hc, Option.bind_some, if_neg (by rw [e4]; decide), hb])
    refine ⟨⟨oc, od, cd, sl, X _ _ ho, e1, e2, e4, e0⟩, made, ?_, sub _ _ e5, sub _ _ e6, sub _ _ e6', sub _ _ e9, sub _ _ e10, looks_specialIn X e7, looks_instIn X e8, looks_typeIn X e12⟩
    intro A Q E s k q
    unfold Bind.staticBase
    refine wpAny_bind (hm A _ E s k ?_)
    rw [hl, List.forIn_cons]
    exact wpAny_bind (wpAny_bind (wpAny_bind (made A _ E s k (wpAny_pure (wpAny_pure (wpAny_pure q))))))
  · cases e
abbrev excObj (C t : Addr) : Obj := { cls := .ref C, data := .fields #[.ref t, .none, .none, .none, .bool false, .none] }
abbrev tupObj (vs : List Value) : Obj := { cls := .type "tuple", data := .seq vs.toArray }
section
variable {prog : Program} {w : World} {A : Around} {C : Addr} {R : Result → Shared → Prop} {h : Heap} {g : Array GenState} {d : Drawn} {t : Nat} {os : OsState}
theorem newObj_x {M : Model} {E : Value → Shared → Prop} {s : Shared} {cd : ClassData} {oc : Value} {od : Option Addr} {sl : Array (Option Value)} {vs : Array Value} {Q : Value → Shared → Prop} (hC : s.heap.get? C = some ⟨oc, od, .cls cd, sl⟩) (hd : cd.hasDel = false)
    (hz : vs.size ≤ sizeLine) (hQ : Q (.ref s.heap.objs.size) { s with heap := s.heap.push { cls := .ref C, data := .fields vs } }) : wpAny M A (newObj (.ref C) (.fields vs)) Q E s := by
  have step : wpAny M A (newObjAsIs (.ref C) (.fields vs) none) Q E s := by
    unfold newObjAsIs classHasDel
    refine wpAny_bind (wpAny_alloc (wpAny_bind (wpAny_bind (wpAny_load (Heap.get?_push_of_some _ hC) (wpAny_pure ?_)))))
    refine rwg hd ?_
    exact wpAny_pure hQ
  unfold newObj
  refine wpAny_neg (by lia) ?_
  first | exact step | exact wpAny_bind (wpAny_pure step)
theorem xnew {rest : List Value} (Y : XMakes (model prog w) h C) (hz : rest.length ≤ 100)
    (hq : R (.ok (.ret (.ref (h.objs.size + 1)))) ⟨(h.push (tupObj rest)).push (excObj C h.objs.size), g, d, t, os⟩) :
    codeAny (model prog w) A (.call (.builtin "Exception.__new__") ⟨.ref C :: rest, []⟩) R ⟨h, g, d, t, os⟩ := by
  obtain ⟨⟨oc, od, cd, sl, hC, e1, e2, e4, e0⟩, made, base, self, exc, bas, noA, noN, call, typ, cls⟩ := Y
  have F := PySem.F.excBase_Exception
  refine codeAny_call_builtin_code (Code.quiet_builtin _ F.quiet) ?_
  simp only [checkBuiltinCall, F.newKind, F.newSplit, F.newRow]
  have here : ∀ id, Manifest.canonical "Exception.__new__" = Manifest.canonical id → Looks (model prog w) h (Bind.madeHere id (.ref C)) () := fun id hid =>
    base.andThen (made.andThen (Looks.of_pure (by simp only [Option.map_some, hid, bne_self_eq_false, Bool.false_eq_true, if_false])))
  have here1 := here "Exception.__new__" rfl
  have here2 := here "BaseException.__new__" F.canon
  have isT : Looks (model prog w) h (isType (.ref C)) true := by
    unfold isType
    exact (Looks.ld (part := some headPart) hC).andThen (Looks.of_pure rfl)
  have args : Bind.checkArgs "Exception.__new__" ⟨.any, "Exception", "Exception", .cls, [⟨"args", .varPos, false⟩, ⟨"kwargs", .varKw, false⟩]⟩ ⟨.ref C :: rest, []⟩ = pure () := by kernel_rfl
  refine wpAny_pos (by decide) ?_
  refine wpAny_bind (isT.here ?_)
  refine wpAny_no ?_
  refine wpAny_bind (exc.here ?_)
  refine wpAny_no ?_
  refine wpAny_bind (base.here (wpAny_bind (made.here ?_)))
  refine wpAny_no ?_
  refine rwg args ?_
  refine wpAny_pure ?_
  refine codeAny_builtin_stack F.entry rfl fun p st => ?_
  have plain : plainId "Exception.__new__" = true := by decide +kernel
  refine rwg (Around.under_plainId plain _) ?_
  show wpAny _ _ ((if ("Exception.__new__" : String).endsWith ".__new__" = true then pure (("Exception.__new__" : String).dropRight 8) else unsupported "internal:__new__-under-another-id" : Sem String) >>= _) _ _ _
  rw [if_pos F.ends, F.owner]
  refine wpAny_bind (wpAny_pure ?_)
  refine wpAny_bind (isT.here ?_)
  refine wpAny_no ?_
  refine wpAny_bind (exc.here ?_)
  refine wpAny_no ?_
  refine wpAny_bind (here2.here ?_)
  refine wpAny_bind ?_
  show wpAny _ _ (do
    if ← isSubtype (.ref C) (.type "AttributeError") then return 2
    if ← isSubtype (.ref C) (.type "NameError") then return 1
    return 0 : Sem Nat) _ _ _
  refine wpAny_bind (noA.here ?_)
  refine wpAny_no ?_
  refine wpAny_bind (noN.here ?_)
  refine wpAny_no ?_
  refine wpAny_pure ?_
  refine wpAny_bind (wpAny_newTuple ?_ (by rw [sizeLine_eq]; lia))
  have fin : wpAny (model prog w) A.in1 (newObj (.ref C) (.fields #[.ref h.objs.size, .none, .none, .none, .bool false, .none]) >>= fun v => ret v) (fun fin s' => match fin with | .done f => R (.ok f) s' | .again c' => c'.quiet = true ∧ codeAny (model prog w) A c' R s')
      (fun e s' => R (.error e) s') ⟨h.push (tupObj rest), g, d, t, os⟩ := by
    refine wpAny_bind (newObj_x (s := ⟨h.push (tupObj rest), g, d, t, os⟩) (Heap.get?_push_of_some _ hC) e2 (by simp [sizeLine_eq]) ?_)
    refine wpAny_pure ?_
    show R _ _
    rw [Heap.size_push]
    exact hq
  exact fin
theorem make_X {rest : List Value} {init : Value} (Y : XMakes (model prog w) h C) (hi : Looks (model prog w) h (typeLookup (.ref C) "__init__") (some init)) (hz : rest.length ≤ 100)
    (hb : ∀ self, Looks (model prog w) h (bindSpecial init self) (init, [self]))
    (hq : codeC (model prog w) (A.under (.builtin "type.__call__" ⟨.ref C :: rest, []⟩)) (.call init ⟨.ref (h.objs.size + 1) :: rest, []⟩) (InitBack (h.objs.size + 1) R) ⟨(h.push (tupObj rest)).push (excObj C h.objs.size), g, d, t, os⟩) :
    codeC (model prog w) A (.call (.ref C) ⟨rest, []⟩) R ⟨h, g, d, t, os⟩ := by
  have Y' := Y
  obtain ⟨⟨oc, od, cd, sl, hC, e1, e2, e4, e0⟩, made, base, self, exc, bas, noA, noN, call, typ, cls⟩ := Y
  refine codeC_of_tree trivial ?_
  have step : wpC (model prog w) (A.under (.call (.ref C) ⟨rest, []⟩)) (callAny.viaDunder (.ref C) ⟨rest, []⟩) (ends prog w A R) (fun e s' => R (.error e) s') ⟨h, g, d, t, os⟩ := by
    unfold callAny.viaDunder
    refine wpC_then (call.at ?_)
    dsimp only
    rw [tc_bind]
    refine wpC_bind (wpC_pure (wpC_bind (wpC_pure ?_)))
    refine wpC_pure (a := Fin.again (.call (.builtin "type.__call__") ⟨.ref C :: rest, []⟩)) (And.intro rfl ?_)
    refine codeC_call_builtin (by decide +kernel) (Code.quiet_builtin _ (by decide +kernel)) PySem.entry_typeCall (check_slot tc_kind tc_split typ (tc_args _ _ _) ?_)
    unfold Builtin.«type.__call__»
    have hm : Looks (model prog w) h (mroOf (.ref C)) cd.mro := ((Looks.ld (part := none) hC).andThen .now).andThen .now
    refine wpC_then (hm.here ?_)
    simp only [e4, Bool.false_eq_true, if_false]
    refine wpC_then (made.here ?_)
    refine wpC_bind (wpC_pure ?_)
    refine wpC_bind (wpC_holding (wpC_of (wpAny_call (xnew Y' hz ?_))))
    have k : ∀ b o, h.get? b = some o → ((h.push (tupObj rest)).push (excObj C h.objs.size)).get? b = some o := fun b o e => Heap.get?_push_of_some _ (Heap.get?_push_of_some _ e)
    have hx : ((h.push (tupObj rest)).push (excObj C h.objs.size)).get? (h.objs.size + 1) = some (excObj C h.objs.size) := by
      have := Heap.get?_push_size (h.push (tupObj rest)) (o := excObj C h.objs.size) rfl
      rwa [Heap.size_push] at this
    have t1 : Looks (model prog w) ((h.push (tupObj rest)).push (excObj C h.objs.size)) (typeOf (.ref (h.objs.size + 1))) (.ref C) := (Looks.ld hx).andThen .now
    have s1 := self.keeps k
    have i1 := hi.keeps k
    have b1 := (hb (.ref (h.objs.size + 1))).keeps k
    have inst : Looks (model prog w) ((h.push (tupObj rest)).push (excObj C h.objs.size)) (isInstance (.ref (h.objs.size + 1)) (.ref C)) true := t1.andThen s1
    have spec : Looks (model prog w) ((h.push (tupObj rest)).push (excObj C h.objs.size)) (specialOf (.ref (h.objs.size + 1)) "__init__") (some init) := t1.andThen i1
    refine wpC_then (inst.here ?_)
    refine wpC_no ?_
    refine wpC_bind (wpC_holding ?_)
    unfold callSpecial?
    refine wpC_then (spec.here ?_)
    refine wpC_holding (wpC_then (b1.here ?_))
    refine wpC_bind (wpC_call (codeC_mono hq fun r s' z => ?_))
    rcases r with e | (v | _ | _ | _) <;> first | exact z | exact z.elim | skip
    obtain ⟨rfl, z⟩ := z
    exact wpC_pure (wpC_pure z)
  have ld : ∀ {k : Obj → Sem Fin}, wpC (model prog w) (A.under (.call (.ref C) ⟨rest, []⟩)) (k ⟨oc, od, .cls cd, sl⟩) (ends prog w A R) (fun e s' => R (.error e) s') ⟨h, g, d, t, os⟩ →
      wpC (model prog w) (A.under (.call (.ref C) ⟨rest, []⟩)) (load C >>= k) (ends prog w A R) (fun e s' => R (.error e) s') ⟨h, g, d, t, os⟩ := fun hk => wpC_then (wpAny_load hC hk)
  exact ld step
end
end Mine
end
section
namespace Mine
theorem refuse_tail (self : Value) : refuseLoop self "__setattr__" excTail = pure () := by
  first | rfl | kernel_rfl
theorem refuse_exc (self : Value) {l : List Value} : excMro l = true → refuseLoop self "__setattr__" l = pure () := by
  induction l with
  | nil => exact fun e => nomatch e
  | cons c r ih =>
    intro e
    rcases Bool.or_eq_true_iff.mp e with e | e
    · obtain ⟨a, rfl, e⟩ := any_at e
      rw [refuseLoop_ref]; exact ih e
    · rw [show c :: r = excTail from beq_iff_eq.mp e]; exact refuse_tail self
theorem exc_has {l : List Value} : excMro l = true → l.contains (.type "object") = true := by
  induction l with
  | nil => exact fun e => nomatch e
  | cons c r ih =>
    intro e
    rcases Bool.or_eq_true_iff.mp e with e | e
    · obtain ⟨a, rfl, e⟩ := any_at e
      rw [List.contains_cons, ih e, Bool.or_true]
    · rw [show c :: r = excTail from beq_iff_eq.mp e]; decide
section
variable {prog : Program} {w : World} {A : Around} {E : Value → Shared → Prop} {K : Frag} {C : Addr} {h : Heap} {g : Array GenState} {d : Drawn} {k : Nat} {os : OsState}
open Builtin Builtin.ObjectAttr Builtin.Getset_descriptor in
theorem set_exc (X : K.In h) {e tt : Addr} {name : Str} {v : Value} (hm : (clsIn K C).any (fun cd => cd.hasDict && excMro cd.mro) = true) (hs : findIn K (.ref C) "__setattr__" = some (some (.builtin "object.__setattr__")))
    (ht : takerIn K C name = some none) (he : h.get? e = some (excObj C tt)) {Q : Unit → Shared → Prop}
    (hQ : ∀ h' dd k', (∀ b o, b ≠ e → h.get? b = some o → h'.get? b = some o) → h'.get? e = some { excObj C tt with dict := some dd } → Q () ⟨h', g, d, k', os⟩) :
    wpAny (model prog w) A (setAttr (.ref e) name v) Q E ⟨h, g, d, k, os⟩ := by
  obtain ⟨cd, hc, hb⟩ := any_some hm
  simp only [Bool.and_eq_true] at hb
  obtain ⟨hd', hmro⟩ := hb
  have I : PySem.W.InstAt h e (excObj C tt) C none := ⟨he, rfl, rfl, trivial⟩
  refine set_plain (s := ⟨h, g, d, k, os⟩) X I hs ?_
  have SF := PySem.F.store_object
  have ne : cd.mro.isEmpty = false := by cases q : cd.mro with | nil => rw [q] at hmro; cases hmro | cons _ _ => rfl
  have sub : Looks (model prog w) h (isInstance (.ref e) (.type "object")) true := I.type.andThen (looks_mroIn X (by unfold mroIn; rw [hc, Option.bind_some, if_neg (by rw [ne]; decide), exc_has hmro]))
  refine codeAny_call_builtin SF.slot.plain SF.entry (@check_slot (model prog w) _ _ ⟨h, g, d, k + 1, os⟩ "object.__setattr__" "object" "__setattr__" (.ref e) [.str name k, v] [] _ SF.kind SF.split sub (SF.args (.ref e) (.str name k) v) ?_)
  obtain ⟨attr, ha, hr⟩ := Option.bind_eq_some_iff.mp ht
  have hmm : Looks (model prog w) h (mroOf (.ref C)) cd.mro := (looks_clsIn X hc).andThen .now
  have L3 : Looks (model prog w) h (storeTaker? attr) none := by
    cases attr with
    | none => exact .now
    | some a =>
      obtain ⟨b, hb, hb'⟩ := Option.map_eq_some_iff.mp hr
      refine (looks_takesIn X hb).andThen ?_
      cases b
      · exact .now
      · cases hb'
  rw [osa_eq, refuse_eq]
  refine wpAny_bind (wpAny_bind (I.type.here (wpAny_bind (hmm.here ?_))))
  rw [refuse_exc _ hmro]
  refine wpAny_pure (wpAny_bind (I.type.here (wpAny_bind ((looks_findIn X ha).here (wpAny_bind (L3.here ?_))))))
  refine wpAny_bind (wpAny_pure (wpAny_bind (wpAny_bind (wpAny_loadPart he (wpAny_bind ((looks_clsIn X hc).here ?_))))))
  rw [hd']
  refine wpAny_no ?_
  have en : e ≠ h.objs.size := fun q => by rw [q, get_size] at he; cases he
  have he1 : (h.push emptyDict).get? e = some (excObj C tt) := Heap.get?_push_of_some _ he
  have hd1 : (h.push emptyDict).get? h.objs.size = some emptyDict := Heap.get?_push_size _ rfl
  refine wpAny_bind (wpAny_alloc ?_)
  refine wpAny_bind (wpAny_update he1 ?_)
  refine wpAny_pure ?_
  have he2 : ((h.push emptyDict).update e fun o => { o with dict := some h.objs.size }).get? e = some { excObj C tt with dict := some h.objs.size } := Heap.get?_update_self _ he1 rfl
  have hd2 : ((h.push emptyDict).update e fun o => { o with dict := some h.objs.size }).get? h.objs.size = some emptyDict := (Heap.get?_update_ne _ _ _ _ (Ne.symm en)).trans hd1
  have k2 : ∀ b o, b ≠ e → h.get? b = some o → ((h.push emptyDict).update e fun o => { o with dict := some h.objs.size }).get? b = some o := fun b o hb q => (Heap.get?_update_ne _ _ _ _ hb).trans (Heap.get?_push_of_some _ q)
  unfold storeInDict
  refine wpAny_bind (wpAny_of_eq (a := ()) rfl ?_)
  have up : Obj.putName name (PyData.keyHash w.params name) (.str name (k + 1)) v (dictOf [] 0) = dictOf (putL name (PyData.keyHash w.params name) (.str name (k + 1)) v []) (putN name [] 0) := putName_dict ..
  have hd2' : ((h.push emptyDict).update e fun o => { o with dict := some h.objs.size }).get? h.objs.size = some (dictOf [] 0) := hd2
  have G : (((h.push emptyDict).update e fun o => { o with dict := some h.objs.size }).update h.objs.size (Obj.putName name (PyData.keyHash w.params name) (.str name (k + 1)) v)).get? h.objs.size =
      some (dictOf (putL name (PyData.keyHash w.params name) (.str name (k + 1)) v []) (putN name [] 0)) := by
    rw [← up]; exact Heap.get?_update_self _ hd2' (by rw [up]; rfl)
  refine wpAny_bind ?_
  unfold nsSet
  refine wpAny_bind (wpAny_bind (wpAny_askSetting (wpAny_pure (wpAny_bind (wpAny_mkText (wpAny_bind (wpAny_loadPart hd2' ?_)))))))
  have cf : aRefKeyMayBeTheName name (#[] : Array DictEntry) = false := by rw [aRefKeyMayBeTheName_at]; simp
  dsimp only
  rw [cf]
  refine wpAny_updatePart hd2' ?_
  refine wpAny_bind (wpAny_lookBehind G (pastItsLine_dict (by rw [List.size_toArray, sizeLine_eq]; simp [putL])) ?_)
  refine wpAny_pure ?_
  refine hQ _ h.objs.size _ (fun b o hb q => ?_) ?_
  · exact (Heap.get?_update_ne _ _ _ _ (Nat.ne_of_lt (Heap.lt_size q))).trans (k2 b o hb q)
  · exact (Heap.get?_update_ne _ _ _ _ en).trans he2
end
end Mine
end
section
namespace Mine
theorem init_inv {l : List Stmt} (h : initStmts l = true) : ∃ p1 p2 p3 pos, l = [.Assign [.Attribute (.Name "self" p1) "message" p2] (.Name "message" p3) pos] := by
  refine foldg fun G0 fin0 => ?_
  obtain ⟨s, e0, h⟩ := any_at (o := asOne l) h
  obtain ⟨p, e1, h⟩ := any_at h
  obtain ⟨q, e2, h⟩ := any_at h
  obtain ⟨x, e3, h⟩ := any_at h
  obtain ⟨y, e4, h⟩ := any_at h
  refine fin0 ?_
  have g := Bool.and_eq_true_iff.mp h
  have f := Bool.and_eq_true_iff.mp g.1
  exact ⟨x.2, q.2.2, y.2, p.2.2, by rw [e0, e1, e2, e3, e4, beq_iff_eq.mp f.1, beq_iff_eq.mp f.2, beq_iff_eq.mp g.2]⟩
section
variable {C : Cx} {A : Around} {h : Heap} {g : Array GenState} {d : Drawn} {k : Nat} {os : OsState} {R : Result → Shared → Prop}
theorem init_exc (X : C.K.In h) (lim : h.NoLimit) (hroom : A.depth < recursionLimit) {f cl : Addr} {oc dV kV doc pm cdv ct : Value} {od an : Option Addr} {osl : Array (Option Value)} {name qual : Str} {prms : Arguments} {stmts : List Stmt} {scope : Scope}
    (ho : C.K.lookup f = some ⟨oc, od, .func (fnOf name qual prms stmts scope dV kV doc pm an cdv ct), osl⟩) (hcd : codeIn C.K cdv qual = true) (hk : scope.kind = .function)
    (hco : scope.isCoroutine = false) (hgen : scope.isGenerator = false) (hst : initStmts stmts = true) (hl1 : scope.names.lookup ("self" : Str) = some .local) (hl2 : scope.names.lookup ("message" : Str) = some .local) (hcell : ∀ x ∈ scope.names, x.2 ≠ .cell)
    (hbind : ∀ (s : Shared) a b, C.K.In s.heap → BindsTo s (fnOf name qual prms stmts scope dV kV doc pm an cdv ct) ⟨[a, b], []⟩ [(("self" : Str), a), (("message" : Str), b)])
    (hm : (clsIn C.K cl).any (fun cd => cd.hasDict && excMro cd.mro) = true) (hs : findIn C.K (.ref cl) "__setattr__" = some (some (.builtin "object.__setattr__"))) (ht : takerIn C.K cl "message" = some none)
    {e tt : Addr} {msg : Value} (he : h.get? e = some (excObj cl tt))
    (hQ : ∀ h' dd k', (∀ b o, b ≠ e → h.get? b = some o → h'.get? b = some o) → h'.get? e = some { excObj cl tt with dict := some dd } → R (.ok (.ret .none)) ⟨h', g, d, k', os⟩) :
    codeAny (model C.prog C.w) A (.call (.ref f) ⟨[.ref e, msg], []⟩) R ⟨h, g, d, k, os⟩ := by
  refine codeAny_call_def (s := ⟨h, g, d, k, os⟩) hroom (X _ _ ho) rfl lim (codeRec_of X hcd) rfl (hbind _ _ _ X) hcell (fun x hx => ?_) (fun h₀ hn kp => ?_) hco hgen hk
  · rcases List.mem_cons.mp hx with rfl | hx
    · exact hl1
    · rcases List.mem_cons.mp hx with rfl | hx
      · exact hl2
      · cases hx
  · refine foldg fun G0 fin0 => ?_
    obtain ⟨p1, p2, p3, pos, rfl⟩ := init_inv hst
    refine fin0 ?_
    generalize hE : callEnv (fnOf name qual prms _ scope dV kV doc pm an cdv ct) h.objs.size f = env at hn ⊢
    have e1 : env.locals = h.objs.size := by rw [← hE]; rfl
    have e2 : env.scope = scope := by rw [← hE]; rfl
    have kS : env.kindOf "self" = some .local := by unfold Env.kindOf; rw [e2]; exact hl1
    have kM : env.kindOf "message" = some .local := by unfold Env.kindOf; rw [e2]; exact hl2
    have hk' : env.scope.kind = .function := by rw [e2]; exact hk
    have he' : h₀.get? e = some (excObj cl tt) := kp _ _ he
    rw [execs_cons]
    refine wpAny_bind ?_
    show wpAny _ _ (do
      standAt pos
      if ← swapsWith (.Name "message" p3) (some (.Attribute (.Name "self" p1) "message" p2)) pos.line env then do
        evalThenUse (.Name "message" p3) env fun v => assignAll v ((assignEach [.Attribute (.Name "self" p1) "message" p2] env).map (·.2))
        pure .next
      else do
        let v ← eval (.Name "message" p3) env
        assignStores env v (← swappedStores [.Attribute (.Name "self" p1) "message" p2] (.Name "message" p3) env) ((assignEach [.Attribute (.Name "self" p1) "message" p2] env).map (·.2))) _ _ _
    refine wpAny_bind (wpAny_standAt (wpAny_bind (wpAny_pure ?_)))
    refine wpAny_no (wpAny_bind (wpAny_Name (wpAny_loadName_local hk' kM (by rw [e1]; exact hn) (v := msg) rfl ?_) (by decide)))
    refine wpAny_bind (wpAny_pure ?_)
    refine wpAny_bind ?_
    show wpAny _ _ (do
      let ov ← holding [msg] (eval (.Name "self" p1) env)
      standAt p2.atName
      holding [msg, ov] (setAttr ov "message" msg)
      release [msg, ov] []) _ _ _
    refine wpAny_bind (wpAny_holding (wpAny_Name (wpAny_loadName_local hk' kS (by rw [e1]; exact hn) (v := .ref e) rfl ?_) (by decide)))
    refine wpAny_bind (wpAny_standAt (wpAny_bind (wpAny_holding (set_exc (K := C.K) (X.keeps kp) hm hs ht he' fun h' dd k' k1 k2 => ?_))))
    refine wpAny_release (wpAny_pure ?_)
    refine wpAny_execs_nil ?_
    exact hQ h' dd k' (fun b o hb q => k1 b o hb (kp b o q)) k2
end
end Mine
end
section
namespace Mine
section
variable {C : Cx} {base : Heap} {A : Around} {l : List Env} {z fr : Fz} {σ : Store} {h h' : Heap}
theorem Sim.hide (S : Sim C base z fr σ h) {as : List Addr} (ha : ∀ a ∈ as, (fr a).isSome) : Sim0 C base z fr σ (hideAll h as) := by
  have nb : ∀ a o, base.get? a = some o → a ∉ as := fun a o e q => by
    obtain ⟨ob, hf⟩ := Option.isSome_iff_exists.mp (ha a q)
    rw [(S.frs a ob hf).2.2] at e; cases e
  have nf : ∀ a, fr a = none → a ∉ as := fun a e q => by
    have := ha a q; rw [e] at this; cases this
  have back : ∀ x d, DictOf (hideAll h as) x d → DictOf h x d := fun x d ⟨o, e, q⟩ => ⟨o, of_hideAll as e, q⟩
  have dn : ∀ x c fs d, σ x = some (.inst c fs) → DictOf h x d → d ∉ as := fun x c fs d e dd => nf d (S.offD x c fs d e dd).2.1
  refine { bas := fun a o e => hideAll_get as (S.bas a o e) (nb a o e), fz := fun a o e => ⟨hideAll_get as (S.fz a o e).1 (nf a (S.fz a o e).2.2), (S.fz a o e).2⟩, cell := fun a o e => ?_, off := S.off,
           offD := fun a c fs d e dd => S.offD a c fs d e (back _ _ dd), one := fun a c fs a' c' fs' d e e' dd dd' => S.one a c fs a' c' fs' d e e' (back _ _ dd) (back _ _ dd') }
  have hx := S.cell a o e
  have q := nf a (S.off a o e).2.1
  cases o with
  | inst c fs =>
    refine foldg fun G0 fin0 => ?_
    obtain ⟨d, es, n, h1, h2, h3⟩ := hx
    refine fin0 ?_
    exact ⟨d, es, n, hideAll_get as h1 q, hideAll_get as h2 (dn a c fs d e ⟨_, h1, rfl⟩), h3⟩
  | list vs => obtain ⟨ws, n, h1, h2⟩ := hx; exact ⟨ws, n, hideAll_get as h1 q, h2⟩
  | dict fs =>
    refine foldg fun G0 fin0 => ?_
    obtain ⟨kvs, h1, h2⟩ := hx
    refine fin0 ?_
    exact ⟨kvs, dictOf_keep h1 fun o e => hideAll_get as e q, h2⟩
  | ba b => exact hideAll_get as hx q
theorem frames_of (F : Frs base fr h) {B : Heap} {l : List Env} : (∀ e ∈ l, e.scope.kind ≠ .module ∧ ∃ L, e.frame = some L ∧ (fr L).isSome) → (∀ e ∈ l, ∀ L, e.frame = some L → B.get? L = none) → h.FunFrames B l := by
  induction l with
  | nil => exact fun u_ u_ => trivial
  | cons e l ih =>
    intro hl hB
    refine foldg fun G0 fin0 => ?_
    obtain ⟨k, L, hf, hs⟩ := hl e (.head _)
    obtain ⟨o, ho⟩ := Option.isSome_iff_exists.mp hs
    obtain ⟨⟨sl, h1⟩, h2, h3⟩ := F L o ho
    refine fin0 ?_
    exact ⟨k, ⟨L, _, hf, hB e (.head _) L hf, h1, h2⟩, ih (fun e he => hl e (.tail _ he)) fun e he => hB e (.tail _ he)⟩
theorem Sim.fly (S : Sim C base z fr σ h) (a : AOk A l fr) {e : Addr} {o : Obj} {vs : Array Value} (he : h.get? e = none) (kp : ∀ b o, h.get? b = some o → h'.get? b = some o) (ho : h'.get? e = some o) (hc : o.cls = .ref C.excA)
    (hd : o.data = .fields vs) (h1 : vs[1]? = some .none) (h0 : vs[2]? = some .none) : Fly C base l z fr σ (.ref e) h' := by
  have mem : ∀ env ∈ l, ∀ L, env.frame = some L → L ∈ l.filterMap (·.frame) := fun env hm L hf => List.mem_filterMap.mpr ⟨env, hm, hf⟩
  have all : ∀ b ∈ l.filterMap (·.frame), (fr b).isSome := fun b hb => by
    refine foldg fun G0 fin0 => ?_
    obtain ⟨env, hm, hf⟩ := List.mem_filterMap.mp hb
    obtain ⟨_, L, k2, k3⟩ := a.there env hm
    refine fin0 ?_
    rw [k2] at hf; cases hf; exact k3
  refine ⟨e, hideAll h (l.filterMap (·.frame)), rfl, S.hide all, (S.keep kp).frs, .inr (.inr ⟨fun b o q => kp b o (of_hideAll _ q), ?_, ?_, o, vs, ho, hc, hd, h1, h0⟩)⟩
  · cases q : (hideAll h (l.filterMap (·.frame))).get? e with
    | none => rfl
    | some o => have := of_hideAll _ q; rw [he] at this; cases this
  · exact frames_of (S.keep kp).frs a.there fun env hm L hf => hideAll_none _ (mem env hm L hf)
end
end Mine
end
section
namespace Mine
noncomputable abbrev bare (fd : FuncData) (b : List Stmt) : FuncData := fnOf fd.name fd.qualname fd.params b fd.scope fd.defaults fd.kwdefaults fd.doc fd.pyModule fd.annotations fd.code fd.closureTuple
structure FunAt (K : Frag) (a : Addr) (fd : FuncData) (b : List Stmt) : Prop where
  obj : ∃ oc od osl, K.lookup a = some ⟨oc, od, .func (bare fd b), osl⟩
  code : codeIn K fd.code fd.qualname = true
  kind : fd.scope.kind = .function
  co : fd.scope.isCoroutine = false
  gen : fd.scope.isGenerator = false
structure XFacts (C : Cx) (initA : Addr) (mg : Str → Option Value) : Prop where
  name : mg (Str.ofString "CrashError") = some (.ref C.excA)
  make : exMakesIn C.K C.excA = true
  keep : keepIn C.K (.ref C.excA) = true
  init : findIn C.K (.ref C.excA) "__init__" = some (some (.ref initA))
  ty : typeIn C.K (.ref initA) = some (.type "function")
  mro : (clsIn C.K C.excA).any (fun cd => cd.hasDict && excMro cd.mro) = true
  sa : findIn C.K (.ref C.excA) "__setattr__" = some (some (.builtin "object.__setattr__"))
  tk : takerIn C.K C.excA "message" = some none
  defn : ∃ fd b, FunAt C.K initA fd b ∧ initStmts b = true ∧ fd.scope.names.lookup ("self" : Str) = some .local ∧ fd.scope.names.lookup ("message" : Str) = some .local ∧ (∀ x ∈ fd.scope.names, x.2 ≠ .cell) ∧
    ∀ (s : Shared) a c, BindsTo s (bare fd b) ⟨[a, c], []⟩ [(("self" : Str), a), (("message" : Str), c)]
section
variable {C : Cx} {base : Heap} {A : Around} {l : List Env} {z₀ z fr₀ : Fz} {σ : Store} {h : Heap} {env : Env} {L : Addr} {ns : Names} {vis : Vis} {g : Array GenState} {d : Drawn} {k : Nat} {os : OsState} {mg mb : Str → Option Value} {initA : Addr}
theorem raise_0 {prog : Program} {w : World} {s : Shared} {E : Value → Shared → Prop} {α : Type} {e : Addr} {Q : α → Shared → Prop} (hh : A.handled = none) (h : E (.ref e) s) : wpAny (model prog w) A (raiseNew (.ref e) : Sem α) Q E s := by
  unfold raiseNew
  refine wpAny_bind (wpAny_handled ?_)
  refine rwg hh ?_
  exact wpAny_bind (wpAny_pure (wpAny_throw h))
theorem make_exc (F : Facts C base mg mb) (XF : XFacts C initA mg) (r : Room A 1) (S : ∀ a o, base.get? a = some o → h.get? a = some o) {msg : Value} {Q : Value → Shared → Prop} {E : Value → Shared → Prop}
    (hQ : ∀ h' k' dd t, (∀ b o, h.get? b = some o → h'.get? b = some o) → h'.get? (h.objs.size + 1) = some { excObj C.excA t with dict := some dd } → Q (.ref (h.objs.size + 1)) ⟨h', g, d, k', os⟩) :
    wpC (model C.prog C.w) A (call (.ref C.excA) [msg] []) Q E ⟨h, g, d, k, os⟩ := by
  have X : C.K.In h := F.inn.keeps S
  refine wpC_call (make_X (xmakes_of X XF.make) (looks_findIn X XF.init) (by simp) (fun self => bind_fn X self XF.ty) (codeC_of ?_))
  obtain ⟨fd, b, ⟨⟨oc, od, osl, d1⟩, d2, d3, d4, d5⟩, d6, d7, d8, d9, d10⟩ := XF.defn
  have kp : ∀ b o, h.get? b = some o → ((h.push (tupObj [msg])).push (excObj C.excA h.objs.size)).get? b = some o := fun b o e => Heap.get?_push_of_some _ (Heap.get?_push_of_some _ e)
  have hx : ((h.push (tupObj [msg])).push (excObj C.excA h.objs.size)).get? (h.objs.size + 1) = some (excObj C.excA h.objs.size) := by
    have := Heap.get?_push_size (h.push (tupObj [msg])) (o := excObj C.excA h.objs.size) rfl
    rwa [Heap.size_push] at this
  have nw : h.get? (h.objs.size + 1) = none := by
    cases q : h.get? (h.objs.size + 1) with
    | none => rfl
    | some o => exact absurd (Heap.lt_size q) (Nat.not_lt.mpr (Nat.le_succ _))
  have lim : h.NoLimit := F.lim.keeps S
  refine init_exc (X.keeps kp) (lim.keeps kp) ?_ d1 d2 d3 d4 d5 d6 d7 d8 d9 (fun s a c u_ => d10 s a c) XF.mro XF.sa XF.tk hx fun h' dd k' k1 k2 => ?_
  · show A.depth + _ < _
    refine rwg ((tc_weight C.excA [msg]).1) ?_
    have := r.1; lia
  · exact ⟨rfl, hQ h' k' dd h.objs.size (fun b o e => k1 b o (fun q => by rw [q, nw] at e; cases e) (kp b o e)) k2⟩
theorem s_raise (F : Facts C base mg mb) (XF : XFacts C initA mg) (B : BlockOk env L ns vis) (a : ∀ o, AOk A l (fr₀.set L o)) (r : Room A 1) {y : Str} {cp cp' cpos pos : Pos} {m : Str} {u : Nat} (hy : (y == "CrashError") = true) (hk : (ns.lookup y == some .globalImplicit) = true) :
    RefS C base l z₀ fr₀ A env L vis (exec (.Raise (some (.Call (.Name y cp) [.Constant (.str m) u cp'] [] cpos)) none pos) env) (fun ρ σ u_ X => X ρ σ) := by
  intro z o ρ σ h k g d os Q X hz H q S hX Q' E' hQ hE
  have hnone : A.handled = none := hX.resolve_right fun hx => hx _ _ q
  have ey : y = Str.ofString "CrashError" := beq_iff_eq.mp hy
  subst ey
  have kind : env.kindOf (Str.ofString "CrashError") = some .globalImplicit := by
    unfold Env.kindOf
    rw [B.names]; exact beq_iff_eq.mp hk
  have ld : ∀ {Q : Value → Shared → Prop} {E : Value → Shared → Prop}, Q (.ref C.excA) ⟨h, g, d, k, os⟩ → wpAny (model C.prog C.w) A (eval (.Name (Str.ofString "CrashError") cp) env) Q E ⟨h, g, d, k, os⟩ := fun hq =>
    PySem.Calls.Name_function_global B.kind kind (PySem.Calls.loadGlobal_global (by rw [B.glob]; exact F.g.keeps S.bas) XF.name hq) (by decide)
  refine wpC_bind (wpC_standAt ?_)
  unfold raiseStmt
  refine wpC_bind (wpC_bind ?_)
  rw [eval_call_plain rfl]
  refine wpC_bind (wpC_of (ld ?_))
  have XK : C.K.In h := F.inn.keeps S.bas
  refine callWith_C (P := fun h' => h' = h) rfl (fun h' e => by subst e; exact keep_K XF.keep XK) ?_
  show wpC _ _ (spliced [(false, eval (.Constant (.str m) u cp') env)]) _ _ _
  rw [spliced]
  refine wpC_bind (wpC_of (PySem.Calls.Constant_str ?_))
  refine wpC_no ?_
  refine wpC_bind (wpC_pure (wpC_bind (wpC_holding (wpC_pure (wpC_pure ⟨rfl, ?_⟩)))))
  refine make_exc F XF r S.bas fun h' k' dd t kp he => ?_
  have Y := xmakes_of (M := model C.prog C.w) (XK.keeps kp) XF.make
  have nw : h.get? (h.objs.size + 1) = none := by
    cases q : h.get? (h.objs.size + 1) with
    | none => rfl
    | some o => exact absurd (Heap.lt_size q) (Nat.not_lt.mpr (Nat.le_succ _))
  have ty : Looks (model C.prog C.w) h' (typeOf (.ref (h.objs.size + 1))) (.ref C.excA) := (Looks.ld he).andThen .now
  have nt : Looks (model C.prog C.w) h' (isType (.ref (h.objs.size + 1))) false := by
    unfold isType
    exact (Looks.ld (part := some headPart) he).andThen (Looks.of_pure rfl)
  have ie : Looks (model C.prog C.w) h' (isInstance (.ref (h.objs.size + 1)) (.type "BaseException")) true := ty.andThen Y.bas
  refine wpC_bind (wpC_standAt (wpC_pure ?_))
  refine wpC_bind (wpC_pure ?_)
  refine wpC_bind (wpC_holding ?_)
  unfold excFromValue isExcClass
  refine wpC_bind (wpC_bind (wpC_of (nt.here (wpC_pure ?_))))
  refine wpC_no ?_
  refine wpC_then (ie.here ?_)
  refine wpC_yes ?_
  refine wpC_pure ?_
  refine wpC_then (nt.here ?_)
  refine wpC_no ?_
  refine wpC_bind ?_
  unfold raisedInstance
  refine wpC_then (ty.here (wpC_then (Y.cls.here ?_)))
  refine wpC_pos (by decide) ?_
  refine wpC_pure ?_
  refine wpC_bind ?_
  unfold setFlight
  refine wpC_then (wpAny_field he rfl (x := .none) rfl ?_)
  refine wpC_neg (by decide) ?_
  refine wpC_pure ?_
  have kp2 : ∀ b o, h.get? b = some o → h'.get? b = some o := kp
  refine wpC_of (raise_0 hnone ?_)
  refine hE z o ρ σ _ h' k' hz (Tle.refl z) H ?_ q
  exact S.fly (a o) nw kp2 he rfl rfl rfl rfl
end
end Mine
end
section
namespace Mine
noncomputable def baseWith (base h : Heap) (a : Addr) : Heap := hideAll h ((List.range h.objs.size).filter fun x => (base.get? x).isNone && x != a)
section
variable {C : Cx} {base : Heap} {A : Around} {l : List Env} {z z₀ fr fr₀ : Fz} {σ : Store} {h : Heap} {env : Env} {L : Addr} {ns : Names} {vis : Vis} {mg mb : Str → Option Value} {initA : Addr}
theorem baseWith_none {a x : Addr} (hb : base.get? x = none) (hx : x ≠ a) : (baseWith base h a).get? x = none := by
  by_cases q : x < h.objs.size
  · exact hideAll_none _ (List.mem_filter.mpr ⟨List.mem_range.mpr q, by rw [hb]; simpa using hx⟩)
  · cases r : (baseWith base h a).get? x with
    | none => rfl
    | some o => exact absurd (Heap.lt_size (of_hideAll _ r)) q
theorem baseWith_keep {a x : Addr} {o : Obj} (k : ∀ b o, base.get? b = some o → h.get? b = some o) (hb : base.get? x = some o) : (baseWith base h a).get? x = some o :=
  hideAll_get _ (k _ _ hb) fun m => by
    have := (List.mem_filter.mp m).2
    rw [hb] at this
    simp at this
theorem baseWith_self {a : Addr} {o : Obj} (ha : h.get? a = some o) : (baseWith base h a).get? a = some o :=
  hideAll_get _ ha fun m => by
    have := (List.mem_filter.mp m).2
    simp at this
theorem Facts.up {base' : Heap} (F : Facts C base mg mb) (k : ∀ b o, base.get? b = some o → base'.get? b = some o) : Facts C base' mg mb :=
  { F with
    inn := F.inn.keeps k
    lim := F.lim.keeps k
    sys := (by obtain ⟨o, e⟩ := Option.isSome_iff_exists.mp F.sys; rw [k _ _ e]; rfl)
    g := F.g.keeps k
    b := F.b.keeps k }
theorem Sim.rebase {base' : Heap} (S : Sim C base' z fr σ h) (k : ∀ b o, base.get? b = some o → base'.get? b = some o) : Sim C base z fr σ h := by
  have n : ∀ a, base'.get? a = none → base.get? a = none := fun a e => by
    cases q : base.get? a with
    | none => rfl
    | some o => rw [k _ _ q] at e; cases e
  exact { bas := fun a o e => S.bas a o (k _ _ e), fz := fun a o e => ⟨(S.fz a o e).1, n _ (S.fz a o e).2.1, (S.fz a o e).2.2⟩, cell := S.cell, off := fun a o e => ⟨(S.off a o e).1, (S.off a o e).2.1, n _ (S.off a o e).2.2⟩,
          offD := fun a c fs d e dd => ⟨(S.offD a c fs d e dd).1, (S.offD a c fs d e dd).2.1, n _ (S.offD a c fs d e dd).2.2.1, (S.offD a c fs d e dd).2.2.2⟩, one := S.one, frs := fun a o e => ⟨(S.frs a o e).1, (S.frs a o e).2.1, n _ (S.frs a o e).2.2⟩ }
theorem Sim0.based {B : Heap} {a : Addr} (S : Sim0 C base z fr σ B) (Fr : Frs base fr h) (k : B.StaysIn h) (ha : B.get? a = none) (hv : ∃ o vs, h.get? a = some o ∧ o.data = .fields vs) : Sim C (baseWith base h a) z fr σ h := by
  have S' := S.keep k
  have nf : ∀ x o, B.get? x = some o → x ≠ a := fun x o e q => by rw [q, ha] at e; cases e
  obtain ⟨oa, vs, e1, e2⟩ := hv
  have cellB : ∀ x o, σ x = some o → x ≠ a := fun x o e => by
    obtain ⟨ob, q⟩ := (S.cell x o e).there
    exact nf _ _ q
  exact { bas := fun x o e => of_hideAll _ e, fz := fun x o e => ⟨(S'.fz x o e).1, baseWith_none (S'.fz x o e).2.1 (nf _ _ (S.fz x o e).1), (S'.fz x o e).2.2⟩, cell := S'.cell,
          off := fun x o e => ⟨(S'.off x o e).1, (S'.off x o e).2.1, baseWith_none (S'.off x o e).2.2 (cellB _ _ e)⟩,
          offD := fun x c fs dd e q => ⟨(S'.offD x c fs dd e q).1, (S'.offD x c fs dd e q).2.1, baseWith_none (S'.offD x c fs dd e q).2.2.1 (by
              obtain ⟨d', es, n, h1, h2, h3⟩ := S.cell x _ e
              obtain ⟨ox, q1, q2⟩ := q
              rw [k _ _ h1] at q1; cases q1; cases q2
              exact nf _ _ h2), (S'.offD x c fs dd e q).2.2.2⟩,
          one := S'.one, frs := fun x o e => ⟨(Fr x o e).1, (Fr x o e).2.1, baseWith_none (Fr x o e).2.2 (fun q => by
              obtain ⟨sl, r⟩ := (Fr x o e).1
              rw [q, e1] at r
              cases r
              exact (Fr x o e).2.1 vs e2)⟩ }
theorem codeC_suite {prog : Program} {w : World} {A : Around} {s : Shared} {env : Env} {R : Result → Shared → Prop} {e : Value} {b₀ : Stmt} {body : List Stmt} {pos : Pos}
    (h : wpAny (model prog w) A (setFlight e none) (fun u_ s₁ => wpC (model prog w) A (execs (b₀ :: body) env) (fun f s₂ => R (.ok f) s₂) (fun u_ u_ => False) s₁) (fun u_ u_ => False) s) :
    codeC (model prog w) A (.handlers e [.ExceptHandler none none (b₀ :: body) pos] env) R s := by
  refine codeC_of_tree trivial ?_
  show wpC _ A (do return Fin.done (← (handleWith e env [.ExceptHandler none none (b₀ :: body) pos]).onRaise (fun x => do noteFrame x env; theTreesLotGoes x))) _ _ s
  refine wpC_bind (wpC_onRaise ?_)
  unfold handleWith
  exact wpC_bind (wpC_standAt (wpC_then (wpAny_mono h (fun u_ s₁ h₁ => wpC_mono h₁ (fun f s₂ h₂ => wpC_pure h₂) fun u_ u_ x => x.elim) fun u_ u_ x => x.elim)))
theorem s_try (F : Facts C base mg mb) (XF : XFacts C initA mg) (B : BlockOk env L ns vis) (hA : A.frames = some (env :: l)) (hf : env.frame = some L) {y : Str} {body r : List Stmt} {s₀ : Stmt} {np hp pos : Pos} {fa fh : TrS} (hy : (y == "CrashError") = true)
    (hk : (ns.lookup y == some .globalImplicit) = true) (hb : RefS C base (env :: l) z₀ fr₀ A env L vis (execs body env) fa)
    (hh : ∀ base' a, Facts C base' mg mb → HOk base' (A.mark (some (.ref a))) → RefS C base' (env :: l) z₀ fr₀ (A.mark (some (.ref a))) env L vis (execs (s₀ :: r) env) fh) :
    RefS C base (env :: l) z₀ fr₀ A env L vis (exec (.Try body [.ExceptHandler (some (.Name y np)) none (s₀ :: r) hp] [] [] pos) env) (cTry fa fh) := by
  intro z o ρ σ h k g d os Q X hz H q S hX Q' E' hQ hE
  obtain ⟨⟨ρx, σx, hx⟩, q⟩ := q
  have hnone : A.handled = none := hX.resolve_right fun n => n _ _ hx
  have ey : y = Str.ofString "CrashError" := beq_iff_eq.mp hy
  subst ey
  have kind : env.kindOf (Str.ofString "CrashError") = some .globalImplicit := by
    unfold Env.kindOf
    rw [B.names]; exact beq_iff_eq.mp hk
  show wpC _ _ (do standAt pos; tryStmt false (execs body env) [.ExceptHandler (some (.Name (Str.ofString "CrashError") np)) none (s₀ :: r) hp] (execs [] env) [] env) _ _ _
  refine wpC_bind (wpC_standAt ?_)
  unfold tryStmt
  simp only [List.isEmpty_nil, if_true, List.isEmpty_cons, Bool.false_and, Bool.false_eq_true, if_false]
  refine wpC_bind (wpC_attempt (hb z o ρ σ h k g d os Q (fun ρ σ => fh ρ σ Q fun u_ u_ => False) hz H q S (.inl hnone) _ _ (fun z₂ o₂ ρ₂ σ₂ fl f h₂ k₂ z1 z2 H₂ S₂ rf q₂ => ?_) (fun z₂ o₂ ρ₂ σ₂ e h₂ k₂ z1 z2 H₂ fl q₂ => ?_)))
  · have fin : Q' f ⟨h₂, g, d, k₂, os⟩ := hQ z₂ o₂ ρ₂ σ₂ fl f h₂ k₂ z1 z2 H₂ S₂ rf q₂
    cases f with
    | next => exact wpC_pure fin
    | cont => exact wpC_pure fin
    | ret v => exact wpC_pure fin
    | brk => exact wpC_pure fin
  · refine wpC_then (note_fly (s := ⟨h₂, g, d, k₂, os⟩) hA hf fl fun h₃ flh => ?_)
    obtain ⟨a, Bh, rfl, S0, Fr, N⟩ := flh
    refine wpC_then (flight2 (s := ⟨h₃, g, d, k₂, os⟩) (x := none) N fun h₄ N₄ u₄ => ?_)
    have kb : ∀ b o, base.get? b = some o → h₄.get? b = some o := fun b o e => N₄.1 _ _ (S0.bas _ _ e)
    have XK : C.K.In h₄ := F.inn.keeps kb
    have Y := xmakes_of (M := model C.prog C.w) XK XF.make
    obtain ⟨_, _, _, T₄, oe, vs, oT, ts, n1, n2, n3, n4, n5, _⟩ := id N₄
    have ty : Looks (model C.prog C.w) h₄ (typeOf (.ref a)) (.ref C.excA) := by
      rw [← n2]; exact (Looks.ld n1).andThen .now
    rw [handleBy]
    refine wpC_bind (wpC_holding ?_)
    unfold runOwn
    refine wpC_onRaise (wpC_run ?_ (by intro x; cases x))
    refine codeC_of (codeAny_handlers_test (PySem.Calls.Name_function_global B.kind kind (PySem.Calls.loadGlobal_global (by rw [B.glob]; exact F.g.keeps kb) XF.name ?_) (by decide)))
    have isT : Looks (model C.prog C.w) h₄ (isInstance (.ref C.excA) (.type "tuple")) false := Y.cls.andThen (Looks.of_pure (by rw [isSubtype_type]; kernel_rfl))
    have isC : Looks (model C.prog C.w) h₄ (isType (.ref C.excA)) true := by
      obtain ⟨oc, od, cd, sl, hC, _⟩ := Y.obj
      unfold isType
      exact (Looks.ld (part := some headPart) hC).andThen (Looks.of_pure rfl)
    have hit : wpAny (model C.prog C.w) (A.mark (some (.ref a))) (excMatches (.ref a) (.ref C.excA)) (fun b s => b = true ∧ s = ⟨h₄, g, d, k₂, os⟩) (fun u_ u_ => False) ⟨h₄, g, d, k₂, os⟩ := by
      unfold excMatches
      refine wpAny_bind (isT.here ?_)
      refine wpAny_no ?_
      refine wpAny_bind (wpAny_pure ?_)
      simp only [List.forIn_cons, List.forIn_nil]
      unfold isExcClass
      refine wpAny_bind (wpAny_bind (wpAny_bind (wpAny_bind (isC.here ?_))))
      refine wpAny_yes ?_
      refine Y.bas.here ?_
      refine wpAny_no ?_
      refine wpAny_pure (wpAny_pure ?_)
      refine wpAny_bind (ty.here (wpAny_bind (wpAny_bind (wpAny_bind (Y.self.here ?_)))))
      refine wpAny_yes ?_
      exact wpAny_pure (wpAny_pure (wpAny_pure ⟨rfl, rfl⟩))
    refine wpAny_mono hit (fun b s hb => ?_) fun u_ u_ x => x.elim
    obtain ⟨rfl, rfl⟩ := hb
    simp only [if_true]
    refine wpC_bind (wpC_pure ?_)
    refine wpC_no ?_
    refine wpC_bind (wpC_holding ?_)
    refine wpC_onRaise (wpC_run ?_ (by intro x; cases x))
    refine codeC_suite (flight2 (s := ⟨h₄, g, d, k₂, os⟩) (x := none) N₄ fun h₅ N₅ u₅ => ?_)
    obtain ⟨K1, K2, _, T₅, oe', vs', oT', ts', m1, m2, m3, m4, m5, _⟩ := id N₅
    have Fr5 := (Fr.up u₄).up u₅
    have kb5 : ∀ b o, base.get? b = some o → h₅.get? b = some o := fun b o e => K1 _ _ (S0.bas _ _ e)
    have S5 : Sim C (baseWith base h₅ a) z₂ (fr₀.set L o₂) σ₂ h₅ := S0.based Fr5 K1 K2 ⟨_, _, m1, m3⟩
    have kbb : ∀ b o, base.get? b = some o → (baseWith base h₅ a).get? b = some o := fun b o => baseWith_keep kb5
    have F5 := F.up kbb
    refine wpC_mono (hh (baseWith base h₅ a) a F5 (.inr ⟨a, oe', vs', rfl, baseWith_self m1, m3, m5⟩) z₂ o₂ ρ₂ σ₂ h₅ k₂ g d os Q (fun u_ u_ => False) z1 H₂ q₂ S5 (.inr fun u_ u_ x => x)
      (fun f s => Q' f s) (fun u_ u_ => False) (fun z₃ o₃ ρ₃ σ₃ fl f h₃ k₃ z3 z4 H₃ S₃ rf q₃ => hQ z₃ o₃ ρ₃ σ₃ fl f h₃ k₃ z3 (z2.trans z4) H₃ (S₃.rebase kbb) rf q₃) (fun u_ u_ u_ u_ u_ u_ u_ u_ u_ u_ u_ x => x.elim)) (fun f s hq => ?_) fun u_ u_ x => x
    exact wpC_pure hq
end
end Mine
end
section
namespace Mine
section
variable {prog : Program} {w : World} {A : Around} {s : Shared} {E : Value → Shared → Prop} {K : Type} [DecidableEq K] {knd : KeyKind prog w K}
theorem next_dict_end {it d : Addr} {i ep : Nat} {kvs : List (K × Value)} {Q : Option Value → Shared → Prop} (hh : HeldOk A s.heap) (hn : ∀ c, A.handled = some (.ref c) → c ≠ it) (hit : s.heap.IsKeyIter it d i kvs.length ep)
    (hm : s.heap.DictAt knd d kvs ep) (hx : kvs[i]? = none) (hQ : ∀ h', (∀ b o, b ≠ it → s.heap.get? b = some o → h'.get? b = some o) → Q none { s with heap := h' }) : wpAny (model prog w) A (pyNext (.ref it)) Q E s := by
  obtain ⟨o, ho, hc, hd⟩ := id hit
  obtain ⟨od, es, hod, hcd, hdd, hk, hp, _⟩ := id hm
  unfold pyNext
  refine wpAny_bind (wpAny_attempt (wpAny_callSpecial?_slot (name := Str.ofString "__next__") hit.typeIs F.slot_dict_keyiterator_next
    (wpAny_call_entry F.slot_dict_keyiterator_next hit.typeIs F.entry_dict_keyiterator_next ?_ (F.args_dict_keyiterator_next_1 _))))
  refine wpAny_bind (wpAny_pure (wpAny_bind (wpAny_bind ?_)))
  first | refine wpAny_bind (wpAny_typeNameOfWhole_keyiter hit.typeIs (wpAny_pure ?_)) | refine wpAny_bind (wpAny_typeNameOf_keyiter hit.typeIs (wpAny_pure ?_))
  refine wpAny_bind (wpAny_fieldsOf ho hd ?_)
  show wpAny _ _ (if (Value.ref d == Value.none) = true then _ else _) _ _ s
  refine rwg (if_neg (show ¬ ((Value.ref d == Value.none) = true) from Bool.false_ne_true)) ?_
  refine wpAny_bind (wpAny_pure (wpAny_bind (wpAny_dictEntries hod hdd ?_)))
  have hsz : es.size = kvs.length := by rw [← hp.length]; simp
  rw [if_neg (by rw [hsz]; simp)]
  refine wpAny_bind (wpAny_pure (wpAny_bind (wpAny_dictEpoch hod hdd ?_)))
  refine rwg (if_neg (by simp)) ?_
  refine wpAny_pure ?_
  have hge : es.size ≤ i := by rw [hsz]; simpa using hx
  simp only [show ¬ ((i : Int) < 0) from by lia, if_false, Int.toNat_natCast, Array.getElem?_eq_none hge]
  refine wpAny_bind ?_
  first | refine wpAny_bind (wpAny_typeNameOfWhole_keyiter hit.typeIs (wpAny_pure ?_)) | refine wpAny_bind (wpAny_typeNameOf_keyiter hit.typeIs (wpAny_pure ?_))
  show wpAny _ _ (setField (.ref it) 0 .none >>= _) _ _ s
  refine wpAny_bind (wpAny_setField ho hd (by simp) ?_)
  show wpAny _ _ (do let e ← newExc (.type "StopIteration") []; raiseNew e) _ _ _
  refine stop_raise (hh.keep fun c o hc e => (Heap.get?_update_ne _ _ _ _ (hn c hc)).trans e) fun e h' e1 e2 e3 => ?_
  obtain ⟨oe, e3, e4⟩ := e3
  refine wpAny_bind (wpAny_isInstance (T := "StopIteration") (b := true) ⟨oe, e3, e4⟩ isSubtype_stop ?_)
  exact wpAny_pure (hQ _ fun b o hb x => e2 _ _ ((Heap.get?_update_ne _ _ _ _ hb).trans x))
theorem walks_dict (I d : Addr) (hne : d ≠ I) (hI : ∀ c, A.handled = some (.ref c) → c ≠ I) (kvs : List (K × Value)) (ep : Nat) :
    Walks prog w A I (I :: d :: heldAt A) [I] kvs.length (fun i v => ∃ k x, kvs[i]? = some (k, x) ∧ knd.is k v = true) (fun i h => h.IsKeyIter I d i kvs.length ep ∧ h.DictAt knd d kvs ep ∧ HeldOk A h) where
  sub := fun b hb => by simp at hb; simp [hb]
  frame := fun u_ u_ u_ st hk => ⟨st.1.at fun o e => hk I (by simp) o e, st.2.1.at' fun o e => hk d (by simp) o e, st.2.2.keep fun c o hc e => hk c (by simp [heldAt_mem hc]) o e⟩
  item := fun i s Q E hi st hQ => by
    obtain ⟨⟨k, x⟩, hx⟩ : ∃ p, kvs[i]? = some p := ⟨kvs[i], by simp [hi]⟩
    refine wpAny_pyNext_dict_item st.1 st.2.1 hx fun key h' hkey hit' hs' => ?_
    exact hQ key h' s.toks ⟨k, x, hx, hkey⟩ ⟨hit', st.2.1.extBut hs'.extBut hne, st.2.2.keep fun c o hc e => hs'.extBut c o (hI c hc) e⟩ fun b o hb e => hs'.extBut b o (fun h => hb (by simp [h])) e
  done := fun s Q E st hQ => next_dict_end st.2.2 hI st.1 st.2.1 (by simp) fun h' he' => hQ h' s.toks fun b o hb e => he' b o (fun h => hb (by simp [h])) e
  self := fun u_ u_ u_ u_ st hQ => wpAny_pyIter_keyiter st.1 hQ
theorem collect_dict {d : Addr} {kvs : List (K × Value)} {ep : Nat} {R : List Value → Shared → Prop} (hh : HeldOk A s.heap) (lo : (d == sysModules) = false) (hm : s.heap.DictAt knd d kvs ep) (hn : kvs.length ≤ sizeLine)
    (h : ∀ (h' : Heap) (tk : Nat) (acc : Array Value), (∀ b o, s.heap.get? b = some o → h'.get? b = some o) → ItemsOf (fun i v => ∃ k x, kvs[i]? = some (k, x) ∧ knd.is k v = true) acc kvs.length → R acc.toList { s with heap := h', toks := tk }) :
    wpAny (model prog w) A (collect (.ref d)) R E s := by
  have hlt : d < s.heap.objs.size := hm.lt_size
  have hel : ∀ c, A.handled = some (.ref c) → c < s.heap.objs.size := fun c hc => by
    refine foldg fun G0 fin0 => ?_
    rcases hh with hh | ⟨e, o, vs, h1, h2, _⟩
    · refine fin0 ?_
      rw [hh] at hc; cases hc
    · refine fin0 ?_
      rw [h1] at hc; cases hc; exact Heap.lt_size h2
  unfold collect
  refine wpAny_bind (wpAny_runValue (codeAny_builtin entry_proto_collect' ?_))
  refine rwg (Around.under_plainId PySem.F.plain_proto_collect _) ?_
  show wpAny _ A.in1 (newList [] >>= fun l => again (.builtin "list.__iadd__" ⟨[l, .ref d], []⟩)) _ _ s
  refine wpAny_bind (wpAny_newObj_type ?_)
  refine wpAny_pure ⟨plainId_quiet PySem.F.plain_list_iadd _, codeAny_builtin entry_list_iadd' ?_⟩
  refine rwg (Around.under_plainId PySem.F.plain_list_iadd _) ?_
  have hS : (s.heap.push { cls := .type "list", data := .seq ([] : List Value).toArray }).get? s.heap.objs.size = some { cls := .type "list", data := .seq #[] } := Heap.get?_push_size _ rfl
  have sz : (s.heap.push { cls := .type "list", data := .seq ([] : List Value).toArray }).objs.size = s.heap.objs.size + 1 := Heap.size_push ..
  have hm₁ := hm.push { cls := .type "list", data := .seq ([] : List Value).toArray }
  show wpAny _ A.in1 (Builtin.List.listExtendWith (.ref s.heap.objs.size) (.ref d) (.ref s.heap.objs.size)) _ _ _
  unfold Builtin.List.listExtendWith
  refine wpAny_bind (wpAny_typeOf (T := "dict") hm₁.dictOf.typeIs ?_)
  have h1 : Builtin.List.listSameRef (.ref s.heap.objs.size) (.ref d) = false := by simp [Builtin.List.listSameRef, Nat.ne_of_gt hlt]
  simp only [h1, show (Value.type "dict" == Value.type "list") = false by decide, show (Value.type "dict" == Value.type "tuple") = false by decide, Bool.or_false, Bool.false_eq_true, if_false]
  refine wpAny_bind (wpAny_pyIter_dict lo hm₁ ?_)
  have hS₁ := Heap.get?_push_of_some { cls := .type "dict_keyiterator", data := .fields #[.ref d, .int 0 0, .int kvs.length 0, .int ep 0] } hS
  have hm₂ := hm₁.push { cls := .type "dict_keyiterator", data := .fields #[.ref d, .int 0 0, .int kvs.length 0, .int ep 0] }
  refine wpAny_bind (wpAny_holding (kdl_hint_dict hm₂.dictOf.typeIs ?_))
  simp only [sz]
  have W := walks_dict (prog := prog) (w := w) (A := A.in1) (knd := knd) (s.heap.objs.size + 1) d (Nat.ne_of_lt (Nat.lt_succ_of_lt hlt)) (fun c hc => Nat.ne_of_lt (Nat.lt_succ_of_lt (hel c hc))) kvs ep
  have hSf : s.heap.objs.size ∉ (s.heap.objs.size + 1) :: d :: heldAt A.in1 := by
    intro q
    refine foldg fun G0 fin0 => ?_
    rcases List.mem_cons.mp q with q | q
    · refine fin0 ?_
      exact absurd q (Nat.ne_of_lt (Nat.lt_succ_self _))
    · refine fin0 ?_
      rcases List.mem_cons.mp q with q | q
      · exact absurd q (Nat.ne_of_gt hlt)
      · unfold heldAt at q
        split at q
        · rename_i c hc
          exact absurd (List.mem_singleton.mp q) (Nat.ne_of_gt (hel c hc))
        · cases q
  have hI : ((s.heap.push { cls := .type "list", data := .seq ([] : List Value).toArray }).push { cls := .type "dict_keyiterator", data := .fields #[.ref d, .int 0 0, .int kvs.length 0, .int ep 0] }).IsKeyIter (s.heap.objs.size + 1) d 0 kvs.length ep := by
    have := Heap.get?_push_size (s.heap.push { cls := .type "list", data := .seq ([] : List Value).toArray }) (o := { cls := .type "dict_keyiterator", data := .fields #[.ref d, .int 0 0, .int kvs.length 0, .int ep 0] }) rfl
    rw [sz] at this
    exact ⟨_, this, rfl, rfl⟩
  have hd0 : ∀ (h : Heap) (c : Nat), (∀ b o, b ≠ s.heap.objs.size → ((s.heap.push { cls := .type "list", data := .seq ([] : List Value).toArray }).push { cls := .type "dict_keyiterator", data := .fields #[.ref d, .int 0 0, .int kvs.length 0, .int ep 0] }).get? b = some o → h.get? b = some o) →
      h.get? s.heap.objs.size = some { cls := .type "list", data := .seq #[] c } → codeAny (model prog w) A (.builtin "list.extend.loop" ⟨[.ref s.heap.objs.size, .ref (s.heap.objs.size + 1), .ref s.heap.objs.size], []⟩)
      (fun (q : Result) (s' : Shared) => ∃ (h' : Heap) (tk : Nat) (acc' : Array Value) (c' : Nat), q = .ok (.ret (.ref s.heap.objs.size)) ∧ s' = { s with heap := h', toks := tk } ∧
      (∀ b o, s.heap.get? b = some o → h'.get? b = some o) ∧ h'.get? s.heap.objs.size = some { cls := .type "list", dict := none, data := .seq acc' c', slots := #[] } ∧ ItemsOf (fun i v => ∃ k x, kvs[i]? = some (k, x) ∧ knd.is k v = true) acc' kvs.length) { s with heap := h } := fun h c hk hc => by
    have st := W.frame 0 _ h ⟨hI, hm₂, hh.keep fun c o u_ e => Heap.get?_push_of_some _ (Heap.get?_push_of_some _ e)⟩ fun b hb o e => hk b o (fun q => hSf (q ▸ hb)) e
    refine codeAny_extend_loopS W.toS hn s.heap.objs.size hSf (.ref s.heap.objs.size) kvs.length 0 { s with heap := h } #[] c rfl (Nat.zero_le _) st hc (ItemsOf.nil _) fun s' acc' c' mv hS' hacc => ?_
    refine rwg (Moved.eq_with mv) ?_
    refine ⟨s'.heap, s'.toks, acc', c', rfl, rfl, fun b o e => mv.heap b o (fun hmem => ?_) (hk b o (Nat.ne_of_lt (Heap.lt_size e)) (Heap.get?_push_of_some _ (Heap.get?_push_of_some _ e))), hS', hacc⟩
    have := Heap.lt_size e
    refine foldg fun G0 fin0 => ?_
    rcases List.mem_cons.mp hmem with rfl | hmem
    · refine fin0 ?_
      exact absurd this (Nat.lt_irrefl _)
    · refine fin0 ?_
      rw [List.mem_singleton.mp hmem] at this
      exact absurd this (Nat.not_lt.mpr (Nat.le_succ _))
  refine wpAny_ite_split (fun u_ => ?_) (fun q => absurd (by decide +kernel) q)
  refine wpAny_bind (wpAny_rule (wpAny_bind ?_))
  refine wpAny_bind (wpAny_updateSeq hS₁ rfl ?_)
  have hS₂ := Heap.get?_update_self (Obj.mapSeq (·.push Value.none)) hS₁ rfl
  refine wpAny_updateSeq (hz := by seq_fits) hS₂ rfl ?_
  have hS₃ := Heap.get?_update_self (Obj.mapSeq (·.pop)) hS₂ rfl
  refine wpAny_pure ⟨plainId_quiet PySem.F.plain_extend_loop _, codeAny_mono (hd0 _ _ (fun b o hb e => (Heap.get?_update_other _ _ (Ne.symm hb)).trans ((Heap.get?_update_other _ _ (Ne.symm hb)).trans e)) hS₃) fun q s₂ y => ?_⟩
  obtain ⟨h', tk, acc', c', rfl, rfl, hk, hS', hacc⟩ := y
  refine wpAny_bind (wpAny_load hS' ?_)
  exact wpAny_pure (h h' tk acc' hk hacc)
theorem sorted_dict {d : Addr} {kvs : List (Str × Value)} {Q : Value → Shared → Prop} (hh : HeldOk A s.heap) (lo : (d == sysModules) = false) (hm : s.heap.DictOf (PySem.strKind prog w) d kvs) (hn : kvs.length < 64)
    (h : ∀ h' a ws n k ss, (∀ b o, s.heap.get? b = some o → h'.get? b = some o) → s.heap.get? a = none → h'.get? a = some (seqObj "list" ws n) → StrsAre ws.toList ss → ss.Perm (kvs.map (·.1)) → sortedS ss = true → Q (.ref a) { s with heap := h', toks := k }) :
    wpAny (model prog w) A (call (.builtin "sorted") [.ref d]) Q E s := by
  obtain ⟨ep, hat⟩ := hm.dictAt
  refine Calls.call_function_entry kind_sorted plain_sorted entry_sorted (args_sorted1 _) ?_
  unfold Builtin.«sorted»
  refine wpAny_bind (m := checkCount "sorted" 1 1 _) (wpAny_pure ?_)
  refine wpAny_bind (collect_dict (A := A.in1) hh lo hat (by rw [sizeLine_eq]; lia) fun h₁ tk acc k₁ hacc => ?_)
  have hl : acc.toList.length = kvs.length := by rw [Array.length_toList]; exact hacc.1
  refine wpAny_bind (wpAny_newList ?_ (by rw [hl, sizeLine_eq]; lia))
  have hS : StrsAre acc.toList (kvs.map (·.1)) := by
    have : ∀ (l : List Value) (ks : List (Str × Value)), l.length = ks.length → (∀ (j : Nat) (v : Value), l[j]? = some v → ∃ k x, ks[j]? = some (k, x) ∧ (PySem.strKind prog w).is k v = true) → StrsAre l (ks.map (·.1)) := by
      intro l
      induction l with
      | nil => intro ks e _; cases ks with | nil => exact .nil | cons _ _ => cases e
      | cons v l ih =>
        intro ks e hv
        cases ks with
        | nil => cases e
        | cons p ks =>
          obtain ⟨k, x, e1, e2⟩ := hv 0 v rfl
          cases e1
          obtain ⟨t, rfl⟩ : ∃ t, v = .str k t := by
            cases v with
            | str y t => exact ⟨t, by rw [show y = k from beq_iff_eq.mp e2]⟩
            | _ => cases e2
          exact .cons _ _ (ih ks (by simpa using e) fun j v hj => hv (j + 1) v hj)
    exact this _ _ hl fun j v e => hacc.2 j v (by rw [← Array.getElem?_toList]; exact e)
  have hoL : (h₁.push { cls := .type "list", data := .seq acc.toList.toArray }).get? h₁.objs.size = some (seqObj "list" acc.toList.toArray 0) := Heap.get?_push_size _ rfl
  have nw : s.heap.get? h₁.objs.size = none := by
    cases q : s.heap.get? h₁.objs.size with
    | none => rfl
    | some o => exact absurd (Heap.lt_size (k₁ _ _ q)) (Nat.lt_irrefl _)
  refine wpAny_bind (wpAny_holding (wpAny_call_entry slot_list_sort ⟨_, hoL, rfl⟩ entry_list_sort (list_sort_treeK strKind_oneLt (s := { s with heap := _, toks := tk }) hoL hS.keysOf (fun v₁ v₂ rest e => keyKind_strs (by rw [← e]; exact hS)) (by rw [hl]; lia) fun st' hp hs => ⟨_, rfl, ?_⟩) (args_list_sort _)))
  obtain ⟨ss', s1, s2, s3⟩ := sorted_out_str hS hp hs
  obtain ⟨e, he⟩ := sortedHeap_at (out := (arrOf st').map (·.2)) hoL
  refine wpAny_pure ⟨_, rfl, h _ _ _ _ _ ss' (fun b o e => ?_) nw he s1 s2 s3⟩
  have hb := Heap.lt_size (k₁ _ _ e)
  rw [sortedHeap_old (Nat.ne_of_lt hb) (by rw [Heap.size_push]; exact Nat.lt_succ_of_lt hb)]
  exact Heap.get?_push_of_some _ (k₁ _ _ e)
end
end Mine
end
section
namespace Mine
section
variable {C : Cx} {base : Heap} {A : Around} {l : List Env} {z z' fr : Fz} {σ : Store} {h : Heap} {env : Env} {mg mb : Str → Option Value} {n : Nat} {call : CallT}
theorem len_ba {prog : Program} {w : World} {s : Shared} {E : Value → Shared → Prop} {a : Addr} {b : List UInt8} {Q : Value → Shared → Prop} (ho : s.heap.get? a = some (baObj b.toArray)) (hz : b.length ≤ 1000000)
    (h : ∀ k t, Q (.int b.length t) { s with toks := k }) : wpAny (model prog w) A (PySem.call (.builtin "len") [.ref a]) Q E s := by
  refine call_len_slot (n := (b.length : Int)) ⟨_, ho, rfl⟩ slot_ba_len (fun Q' hq => ?_) (by lia) (by lia) (h _ _)
  refine wpAny_call_entry slot_ba_len ⟨_, ho, rfl⟩ entry_ba_len ?_ (args_ba_len _)
  unfold Builtin.«bytearray.__len__»
  first
    | refine wpAny_bind (pay_ba ho rfl ?_)
    | refine wpAny_bind (wpAny_pure (wpAny_bind (pay_ba ho rfl ?_)))
  exact wpAny_bind (wpAny_mkInt (wpAny_pure ⟨_, rfl, by simpa using hq⟩))
theorem callee_b (F : Facts C base mg mb) (hh : HOk base A) (b : Value) : Callee C base l z fr A b [] (fun args σ Q u_ => wBi σ b args Q) := by
  intro z₁ args vals σ h k g d os Q X hz rv q S hX
  have held := hh.held S.bas
  have old : ∀ {x}, h.get? x = none → σ x = none := fun {x} hx => (S.new_off hx).2.2.2.1
  obtain ⟨o, rr, q⟩ := q
  have mach : ∀ v : Value, (∀ a, v ≠ .ref a) → keeperOf v = pure Keeper.machine := fun v hv => by cases v <;> first | rfl | exact absurd rfl (hv _)
  refine ⟨⟨.machine, .inr rfl, Looks.of_pure (mach b (by cases rr <;> exact fun u_ => nofun))⟩, fun Q' E' hQ hE => ?_⟩
  simp only [List.nil_append]
  cases rr with
  | lenL vs hv =>
    refine rv.one fun w r1 => ?_
    obtain ⟨la, ws, rfl, hl, hs⟩ := r1.isList S
    have ln := hs.length
    simp only [Array.length_toList] at ln
    refine wpC_of (len_list hl (by lia) ?_)
    rw [ln]; exact hQ z₁ σ _ _ _ _ (Zle.refl _) S (VR.int ..) q
  | lenB b hv =>
    refine rv.one fun w r1 => ?_
    refine r1.bytes_e fun t => ?_
    refine wpC_of (len_bytes (by simp; exact Nat.le_trans (by assumption) (Nat.le_of_ble_eq_true rfl)) ?_)
    exact hQ z₁ σ _ _ _ _ (Zle.refl _) S (by simpa using VR.int ..) q
  | lenC r vs hr hv =>
    refine rv.one fun w r1 => ?_
    refine r1.ref_e ?_
    obtain ⟨ws, m, e1, e2⟩ := S.cell r _ hr
    have ln := e2.length
    simp only [Array.length_toList] at ln
    refine wpC_of (len_list ⟨_, e1, rfl, m, rfl⟩ (by lia) ?_)
    rw [ln]; exact hQ z₁ σ _ _ _ _ (Zle.refl _) S (VR.int ..) q
  | lenA r b hr hv =>
    refine rv.one fun w r1 => ?_
    refine r1.ref_e ?_
    exact wpC_of (len_ba (s := ⟨h, g, d, k, os⟩) (S.cell r _ hr) hv fun k' t => hQ z₁ σ _ _ _ _ (Zle.refl _) S (VR.int ..) q)
  | max a b =>
    refine rv.two fun w w2 r1 r3 => ?_
    refine r1.int_e fun t => ?_
    refine r3.int_e fun u => ?_
    refine wpC_of (max_two (s := ⟨h, g, d, k, os⟩) held fun h' tk kp => ?_)
    refine hQ z₁ σ _ _ _ _ (Zle.refl _) (S.keep kp) ?_ q
    split <;> exact VR.int ..
  | sorted r es hr q1 =>
    refine rv.one fun w r1 => ?_
    refine r1.ref_e ?_
    obtain ⟨kvs, e1, e2⟩ := S.cell r _ hr
    have keys : ∀ {es : List (String × V)} {kvs : List (Str × Value)}, KR C z₁ es kvs → kvs.map (·.1) = (keysOf es).map Str.ofString := by
      intro es
      induction es with
      | nil => intro kvs h; rw [show kvs = [] from h]; rfl
      | cons p es ih => intro kvs h; obtain ⟨val, kvs', rfl, _, h2⟩ := h; simp [keysOf, ih h2]
    have ln := e2.length
    have ln2 : es.length < 64 := by
      have : (keysOf es).length = es.length := by simp [keysOf]
      rcases q1 with q1 | q1 <;> rw [q1] at this <;> simp at this <;> lia
    refine wpC_of (sorted_dict (s := ⟨h, g, d, k, os⟩) held (not_sys S F.sys hr) e1 (by lia) fun h' a ws m k' ss kp ha ha' s1 s2 s3 => ?_)
    rw [keys e2] at s2
    have es : ss = (keysOf es).map Str.ofString := by
      rcases q1 with q1 | q1
      · rw [q1] at s2 ⊢
        exact List.perm_singleton.mp s2
      · rw [q1] at s2 ⊢
        rcases ss with _ | ⟨x, _ | ⟨y, _ | ⟨u, ss⟩⟩⟩
        · exact absurd s2.length_eq (by simp)
        · exact absurd s2.length_eq (by simp)
        · have hx : x = Str.ofString "db" ∨ x = Str.ofString "db-journal" := by simpa using s2.mem_iff.mp (.head _)
          have hy : y = Str.ofString "db" ∨ y = Str.ofString "db-journal" := by simpa using s2.mem_iff.mp (.tail _ (.head _))
          have nd : [x, y].Nodup := s2.nodup_iff.mpr (by decide +kernel)
          rcases hx with rfl | rfl <;> rcases hy with rfl | rfl
          · simp at nd
          · rfl
          · exact absurd s3 (by decide +kernel)
          · simp at nd
        · exact absurd s2.length_eq (by simp)
    subst es
    have vr : ∀ (xs : List String) (vs : List Value) (zz : Fz), StrsAre vs (xs.map Str.ofString) → VRs C zz (xs.map V.str) vs := by
      intro xs
      induction xs with
      | nil => intro vs zz h; cases h; exact VRs.nil
      | cons x xs ih => intro vs zz h; cases h with | cons _ t h => exact VRs.cons (VR.str _ _) (ih _ zz h)
    have S' := S.keep kp
    obtain ⟨nz, nf, nb, ns, no⟩ := S.new_off ha
    have S'' := S'.freeze ha' nz nf nb (by
      rintro (⟨o, e⟩ | ⟨b, c, fs, e, dd⟩)
      · rw [ns] at e; cases e
      · obtain ⟨ob, ho⟩ := (S.cell b _ e).there
        exact no (.inr ⟨b, c, fs, e, dd.keep ho (kp _ _ ho)⟩))
    refine hQ _ σ _ _ _ _ (Zle.set nz) S'' ?_ q
    simp only [VR]
    refine ⟨_, _, _, _, rfl, Fz.set_self .., rfl, rfl, ?_⟩
    have := vr (keysOf es) ws.toList (z₁.set a (seqObj "list" ws m)) s1
    rwa [keysOf, List.map_map] at this
  | bytesB b =>
    refine rv.one fun w r1 => ?_
    refine r1.bytes_e fun t => ?_
    exact wpC_of (call_bytes (new_bytes ⟨rfl, hQ z₁ σ _ _ _ _ (Zle.refl _) S (VR.bytes ..) q⟩))
  | bytesI n hn =>
    refine rv.one fun w r1 => ?_
    refine r1.int_e fun t => ?_
    exact wpC_of (call_bytes (new_int hn.1 hn.2 fun t' k' => ⟨rfl, hQ z₁ σ _ _ _ _ (Zle.refl _) S (VR.bytes' _ _ (by simp)) q⟩))
  | bytesL n hn =>
    refine rv.one fun w r1 => ?_
    obtain ⟨la, ws, rfl, hl, hs⟩ := r1.isList S
    obtain ⟨w, ws', e, r3, r4⟩ := hs.inv
    have := r4.inv0; subst this
    obtain ⟨t, rfl⟩ := r3.int_inv
    have e' : ws = #[_] := Array.toList_inj.mp e
    subst e'
    exact wpC_of (call_bytes (new_one (s := ⟨h, g, d, k, os⟩) (A := A.in1) held hl hn fun h' t' k' kp => ⟨rfl, hQ z₁ σ _ _ _ _ (Zle.refl _) (S.keep kp) (VR.bytes' _ _ (by simp)) q⟩))
  | bytesA r b hr hv =>
    refine rv.one fun w r1 => ?_
    refine r1.ref_e ?_
    exact wpC_of (call_bytes (new_ba (s := ⟨h, g, d, k, os⟩) (S.cell r _ hr) (by rw [sizeLine_eq]; simp; exact Nat.le_trans (by assumption) (Nat.le_of_ble_eq_true rfl)) fun t' k' => ⟨rfl, hQ z₁ σ _ _ _ _ (Zle.refl _) S (VR.bytes ..) q⟩))
  | ba0 =>
    refine rv.zero ?_
    refine make_ba0 (s := ⟨h, g, d, k, os⟩) fun a h' e1 e2 kp => ?_
    exact hQ z₁ (σ.set a (.ba [])) _ _ _ _ (Zle.refl _) (S.newCell e1 kp (fun u_ u_ => nofun) (show h'.get? a = some (baObj _) from e2)) (VR.ref _) (q a (old e1))
  | ba1 b hb =>
    refine rv.one fun w r1 => ?_
    refine r1.bytes_e fun t => ?_
    refine make_ba1 (s := ⟨h, g, d, k, os⟩) (by rw [sizeLine_eq]; simp; exact Nat.le_trans (by assumption) (Nat.le_of_ble_eq_true rfl)) fun a h' e1 e2 kp => ?_
    exact hQ z₁ (σ.set a (.ba _)) _ _ _ _ (Zle.refl _) (S.newCell e1 kp (fun u_ u_ => nofun) (show h'.get? a = some (baObj _) from e2)) (VR.ref _) (q a (old e1))
  | list vs hv =>
    refine rv.one fun w r1 => ?_
    obtain ⟨la, ws, rfl, ⟨o, e1, e2, m, e3⟩, hs⟩ := r1.isList S
    have ln := hs.length
    simp only [Array.length_toList] at ln
    refine wpC_of (call_list_seq (s := ⟨h, g, d, k, os⟩) la (.inl rfl) e1 e2 e3 (fun h' c' kp e => ?_) (by rw [sizeLine_eq]; lia))
    obtain ⟨nz, nf, nb, ns, no⟩ := S.new_off (get_size h)
    have S' := (S.keep kp).freeze e nz nf nb (by
        rintro (⟨o, e⟩ | ⟨b, c, fs, e, dd⟩)
        · rw [ns] at e; cases e
        · obtain ⟨ob, ho⟩ := (S.cell b _ e).there
          exact no (.inr ⟨b, c, fs, e, dd.keep ho (kp _ _ ho)⟩))
    refine hQ _ σ _ _ _ _ (Zle.set nz) S' ?_ q
    simp only [VR]
    exact ⟨_, _, _, _, rfl, Fz.set_self .., rfl, rfl, hs.mono (Zle.set nz).t⟩
end
end Mine
end
section
namespace Mine
theorem closure_cells {env : Env} {f : Str × NameKind → List (Str × Addr) → Sem (ForInStep (List (Str × Addr)))}
    (hf : ∀ x r, f x r = if (x.2 == NameKind.free) = true then (do let c ← cellOf env x.1; pure (ForInStep.yield ((x.1, c) :: r))) else pure (ForInStep.yield r)) (names : List (Str × NameKind)) :
    ∀ (acc : List (Str × Addr)), (∀ p ∈ names, p.2 = .free → ∃ c, env.cells.lookup p.1 = some c) → (∀ p ∈ acc, env.cells.lookup p.1 = some p.2) →
      ∃ cl, forIn names acc f = pure cl ∧ (∀ p ∈ cl, env.cells.lookup p.1 = some p.2) ∧ (∀ p ∈ acc, p ∈ cl) ∧ ∀ p ∈ names, p.2 = .free → ∃ c, (p.1, c) ∈ cl := by
  induction names with
  | nil => exact fun acc u_ ha => ⟨acc, rfl, ha, fun u_ h => h, fun u_ h => (List.not_mem_nil h).elim⟩
  | cons x names ih =>
    intro acc hn ha
    rw [List.forIn_cons, hf]
    by_cases q : (x.2 == NameKind.free) = true
    · obtain ⟨c, hc⟩ := hn x (.head _) (beq_iff_eq.mp q)
      rw [if_pos q]
      have e : cellOf env x.1 = pure c := by unfold cellOf; rw [hc]
      rw [e]
      obtain ⟨cl, h1, h2, h3, h4⟩ := ih ((x.1, c) :: acc) (fun p hp => hn p (.tail _ hp)) (fun p hp => by
        rcases List.mem_cons.mp hp with rfl | hp
        · exact hc
        · exact ha p hp)
      refine ⟨cl, by simpa using h1, h2, fun p hp => h3 p (.tail _ hp), fun p hp hf' => ?_⟩
      rcases List.mem_cons.mp hp with rfl | hp
      · exact ⟨c, h3 _ (.head _)⟩
      · exact h4 p hp hf'
    · rw [if_neg q]
      obtain ⟨cl, h1, h2, h3, h4⟩ := ih acc (fun p hp => hn p (.tail _ hp)) ha
      refine ⟨cl, by simpa using h1, h2, h3, fun p hp hf' => ?_⟩
      rcases List.mem_cons.mp hp with rfl | hp
      · exact absurd (by rw [hf']; rfl) q
      · exact h4 p hp hf'
theorem lookup_of_mem {α : Type} {n : Str} {c : α} {l : List (Str × α)} : (n, c) ∈ l → ∃ c', l.lookup n = some c' ∧ (n, c') ∈ l := by
  induction l with
  | nil => exact fun h => nomatch h
  | cons p l ih =>
    obtain ⟨m, d⟩ := p
    intro h
    by_cases q : n = m
    · subst q; exact ⟨d, List.lookup_cons_self .., .head _⟩
    · have : (n == m) = false := beq_eq_false_iff_ne.mpr q
      rcases List.mem_cons.mp h with e | h
      · cases e; exact absurd rfl q
      · exact (ih h).imp fun c' h => ⟨by rw [List.lookup_cons, this]; exact h.1, .tail _ h.2⟩
theorem closure_for {scope : Scope} {env : Env} (hn : ∀ p ∈ scope.names, p.2 = .free → ∃ c, env.cells.lookup p.1 = some c) :
    ∃ cl, closureFor scope env = pure cl ∧ ∀ n, (n, NameKind.free) ∈ scope.names → cl.lookup n = env.cells.lookup n := by
  have main : ∀ f : Str × NameKind → List (Str × Addr) → Sem (ForInStep (List (Str × Addr))), (∀ x r, f x r = if (x.2 == NameKind.free) = true then (do let c ← cellOf env x.1; pure (ForInStep.yield ((x.1, c) :: r))) else pure (ForInStep.yield r)) →
      ∃ cl, forIn scope.names [] f = pure cl ∧ ∀ n, (n, NameKind.free) ∈ scope.names → cl.lookup n = env.cells.lookup n := fun f hf => by
    obtain ⟨cl, h1, h2, _, h4⟩ := closure_cells hf scope.names [] hn (List.forall_mem_nil _)
    refine ⟨cl, h1, fun n hm => ?_⟩
    obtain ⟨c, hc⟩ := h4 _ hm rfl
    obtain ⟨c', e1, e2⟩ := lookup_of_mem hc
    rw [e1, h2 _ e2]
  obtain ⟨cl, h1, h2⟩ := main (fun x r => if (x.2 == NameKind.free) = true then (do let c ← cellOf env x.1; pure (ForInStep.yield ((x.1, c) :: r))) else pure (ForInStep.yield r)) fun u_ u_ => rfl
  refine ⟨cl, ?_, h2⟩
  simp only [closureFor]
  first
    | (rw [show (fun (x : Str × NameKind) (r : List (Str × Addr)) => _) = _ from rfl]; done)
    | (have := h1; simpa using this)
end Mine
end
section
namespace Mine
section
variable {prog : Program} {w : World} {A : Around} {E : Value → Shared → Prop} {s : Shared} {env : Env}
theorem wpC_standIf {α : Type} {M : Model} {c : Prop} [Decidable c] {pos : Pos} {k : PUnit → Sem α} {Q : α → Shared → Prop} (h : wpC M A (k ()) Q E s) :
    wpC M A (if c then (standAt pos >>= k) else k ()) Q E s := by
  split
  · exact wpC_bind (wpC_standAt h)
  · exact h
theorem comprehension_C {e : PySem.Expr} {scope : Scope} {pos : Pos} {newAcc first : Sem Value} {gc : Comprehension} {gs : List Comprehension} {cl : List (Str × Addr)} {use : Option (Value → Sem Unit)} {Q : Value → Shared → Prop}
    (hcl : clausesOf e = gc :: gs) (hs : ∀ x, foldedSetIterable gc.iter env x = pure x) (hclos : closureFor scope env = pure cl) (hkind : scope.kind = .function) (hnames : ∀ x ∈ scope.names, x.2 = .local → scope.names.lookup x.1 = some .local)
    (h : wpC (model prog w) A first (fun x s₁ => wpAny (model prog w) A (pyIter x) (fun it s₂ => wpAny (model prog w) A newAcc (fun acc s₃ =>
      wpAny (model prog w) A (newFunctionEnv scope env.globals cl [] env.qual none .none (some env)) (fun cenv s₄ =>
        codeC (model prog w) A (.compStart e 0 it acc { cenv with scope := relabel scope env }) (compPost (model prog w) A E use Q acc cenv.locals) s₄) E s₃) E s₂) E s₁) E s) :
    wpC (model prog w) A (comprehension e scope env pos newAcc false first use) Q E s := by
  unfold comprehension
  rw [hclos, hcl]
  refine wpC_bind (wpC_mono h (fun x s₁ h₁ => wpC_bind (wpC_standAt (wpC_bind (wpC_of_eq (hs x) (wpC_bind (wpC_holding (wpC_mono (wpC_of h₁) (fun it s₂ h₂ => ?_) fun u_ u_ h' => h'))))))) fun u_ u_ h' => h')
  refine wpC_standIf (wpC_then (wpAny_mono h₂ (fun acc s₃ h₃ => wpC_bind (wpC_pure (wpC_then (wpAny_mono h₃ (fun cenv s₄ h₄ => ?_) fun u_ u_ h' => h')))) fun u_ u_ h' => h'))
  dsimp only
  have hv : ∀ x ∈ (scope.names.filter fun x => (x.2 == .local || x.2 == .cell) && x.1 != (".0" : Str)).reverse, x.2 = .local →
      Env.kindOf { cenv with scope := relabel scope env } x.1 = some .local := fun x hx hl => lookup_relabel_local (hnames x (List.mem_filter.mp (List.mem_reverse.mp hx)).1 hl)
  have hv' : ∀ x ∈ (scope.names.filter fun x => (x.2 == .local || x.2 == .cell) && x.1 != (".0" : Str)).reverse.drop 1 ++ (scope.names.filter fun x => (x.2 == .local || x.2 == .cell) && x.1 != (".0" : Str)).reverse.take 1,
      x.2 = .local → Env.kindOf { cenv with scope := relabel scope env } x.1 = some .local := fun x hx hl => by
    rcases List.mem_append.mp hx with h1 | h1
    · exact hv x (List.mem_of_mem_drop h1) hl
    · exact hv x (List.mem_of_mem_take h1) hl
  refine wpC_holding (wpC_bind (wpC_attempt (wpC_holding (wpC_run ?_ (by intro x; cases x)))))
  rw [mark_none]
  refine codeC_mono h₄ fun r s' hr => ?_
  cases r with
  | ok f =>
    cases use with
    | none =>
      obtain ⟨m, hn, hr⟩ := hr
      exact wpC_bind (wpC_holding (wpC_of (wpAny_comp_letGo (cenv := { cenv with scope := relabel scope env }) hkind _ s' m hv hn fun h' m' u_ hs' => wpC_pure (hr h' hs'))))
    | some u =>
      refine wpC_bind (wpC_rule (wpC_bind (wpC_holding (wpC_mono (wpC_of hr) (fun u_ s'' hr' => ?_) fun u_ u_ h' => h'))))
      obtain ⟨m, hn, hr'⟩ := hr'
      exact wpC_then (wpAny_comp_letGo (cenv := { cenv with scope := relabel scope env }) hkind _ s'' m hv' hn fun h' m' u_ hs' => wpC_pure (hr' h' hs'))
  | error x =>
    have hr' : ∃ m, s'.heap.Ns cenv.locals m ∧ ∀ h', Heap.SameBut cenv.locals s'.heap h' → ∀ cenv' : Env, cenv'.locals = cenv.locals → wpAny (model prog w) A (passOn "comprehension.variables-let-go" x cenv' : Sem Value) (fun u_ u_ => False) E { s' with heap := h' } := by cases use <;> exact hr
    obtain ⟨m, hn, hr⟩ := hr'
    exact wpC_bind (wpC_holding (wpC_of (wpAny_comp_letGo (cenv := { cenv with scope := relabel scope env }) hkind _ s' m hv hn fun h' m' u_ hs' => wpC_of (wpAny_mono (hr h' hs' _ rfl) (fun u_ u_ f => f.elim) fun u_ u_ y => y))))
theorem compStart_C {R : Result → Shared → Prop} {elt target iter : PySem.Expr} {ifs : List PySem.Expr} {rest : List Comprehension} {scope : Scope} {pos : Pos} {it acc : Value}
    (h0 : codeC (model prog w) A (.compLoop (.ListComp elt (⟨target, iter, ifs, 0⟩ :: rest) scope pos) 0 it acc env) R s)
    (h : wpAny (model prog w) A (pyIter it) (fun it' s' => codeC (model prog w) A (.compLoop (.ListComp elt (⟨target, iter, ifs, 0⟩ :: rest) scope pos) 0 it' acc env) R s') (fun u_ u_ => False) s) :
    codeC (model prog w) A (.compStart (.ListComp elt (⟨target, iter, ifs, 0⟩ :: rest) scope pos) 0 it acc env) R s := by
  refine codeC_of_tree trivial ?_
  refine rwg (Around.under_of_weight rfl) ?_
  refine wpC_onRaise (wpC_of ?_)
  have h' := wpAny_mono h (fun u_ u_ q => q) (E' := fun e s' => wpC (model prog w) A (do noteFrame e env; standAt theWindowsPlace) (fun u_ s'' => R (.error e) s'') (fun e' s'' => R (.error e') s'') s') fun u_ u_ q => q.elim
  unfold compStart
  refine wpAny_bind (wpAny_askSetting (wpAny_ite ?_))
  split
  · first
      | exact wpAny_bind (wpAny_pure (wpAny_pure (And.intro rfl h0)))
      | exact wpAny_pure (And.intro rfl h0)
  · first
      | exact wpAny_bind (wpAny_rule (wpAny_bind (wpAny_standAt (wpAny_bind (wpAny_mono h' (fun it' s' h' => wpAny_pure (And.intro rfl h')) fun u_ u_ x => x)))))
      | (refine wpAny_bind (wpAny_rule ?_); show wpAny _ _ (standAt iter.pos >>= _) _ _ s; exact wpAny_bind (wpAny_standAt (wpAny_bind (wpAny_mono h' (fun it' s' h' => wpAny_pure (And.intro rfl h')) fun u_ u_ x => x))))
end
end Mine
end
section
namespace Mine
theorem Fz.set_comm (z : Fz) {a b : Addr} (o p : Obj) (h : a ≠ b) : (z.set a o).set b p = (z.set b p).set a o := by
  funext c; unfold Fz.set; by_cases q : c = a <;> by_cases r : c = b <;> simp [q, r, h, Ne.symm h]
noncomputable def Lst (o : Obj) (ws : Array Value) : Prop := o.cls = .type "list" ∧ ∃ n, o.data = .seq ws n
noncomputable def NsO (o : Obj) : Prop := ∃ es n, o.data = .dict es n ∧ StrKeys es
noncomputable def FrUp (fr fr' : Fz) : Prop := ∀ L, (fr L).isSome → (fr' L).isSome
section
variable {C : Cx} {base : Heap} {A : Around} {l : List Env} {z₀ zi fr : Fz} {cenv : Env} {D it : Addr} {g : Array GenState} {d : Drawn} {os : OsState}
noncomputable def turnC (felt : Loc → Tr V) (ft : Option (Loc → Tr Bool)) (ρ : Loc) (i : Nat) (v : V) (σ : Store) (K : Option V → Store → Prop) : Prop := match ft with
    | none => felt (ρ.set i (some v)) σ (fun x σ => K (some x) σ) noX
    | some t => t (ρ.set i (some v)) σ (fun r σ => match r with
      | true => felt (ρ.set i (some v)) σ (fun x σ => K (some x) σ) noX
      | false => K none σ) noX
theorem comp_loop {vs : List V} {own : Addr → Prop} {P : Nat → Fz → Prop} {P' : Nat → Value → Fz → Prop} {x : Str} {px : Pos} (W : IterOk C base A it zi (fun u_ => True) vs (.Name x px) own P P')
    (hx : cenv.kindOf x = some .local) (hkind : cenv.scope.kind = .function) {felt : Loc → Tr V} {ft : Option (Loc → Tr Bool)} {ρ : Loc} {i₀ : Nat} {elt iter : PySem.Expr} {ifs : List PySem.Expr} {scope : Scope} {pos : Pos} {vis : Vis}
    (hseen : ∀ z fr' v val, Zle z₀ z → (∃ oc es n, fr' cenv.locals = some oc ∧ oc.data = .dict es n ∧ StrKeys es ∧ nsFind es x = some val) → VR C z v val → EnvR C z fr' cenv (ρ.set i₀ (some v)) vis)
    (helt : ∀ z fr' ρ', Zle z₀ z → FrUp fr fr' → EnvR C z fr' cenv ρ' vis → Ref C base l z fr' A (eval elt cenv) (felt ρ') (VR C))
    (htest : (ft = none ∧ ifs = []) ∨ ∃ t c, ft = some t ∧ ifs = [c] ∧ ∀ z fr' ρ', Zle z₀ z → FrUp fr fr' → EnvR C z fr' cenv ρ' vis → Ref C base l z fr' A (isTrue c cenv (eval c cenv)) (t ρ') (fun u_ b v => v = b))
    (hown : ∀ a, own a → z₀ a = none) (hDC : cenv.locals ≠ D) (hsz : vs.length ≤ 100000) {Qf : List V → Store → Prop} {R : Result → Shared → Prop}
    (hR : ∀ z' σ' acc' oc' od' ws' h' k', Zle z₀ z' → Sim C base z' ((fr.set cenv.locals oc').set D od') σ' h' → NsO oc' → Lst od' ws' → VRs C z' acc' ws'.toList → Qf acc' σ' → R (.ok .next) ⟨h', g, d, k', os⟩) :
    ∀ (n i : Nat) (z : Fz) (σ : Store) (h : Heap) (k : Tok) (acc : List V) (oc od : Obj) (ws : Array Value), n = vs.length - i → i ≤ vs.length → Zle z₀ z → Tle zi z → P i z → Sim C base z ((fr.set cenv.locals oc).set D od) σ h →
      NsO oc → Lst od ws → VRs C z acc ws.toList → acc.length ≤ i → wAcc (turnC felt ft ρ i₀) (vs.drop i) acc σ Qf →
      codeC (model C.prog C.w) A (.compLoop (.ListComp elt [⟨.Name x px, iter, ifs, 0⟩] scope pos) 0 (.ref it) (.ref D) cenv) R ⟨h, g, d, k, os⟩ := by
  intro n
  induction n with
  | zero =>
    intro i z σ h k acc oc od ws hn hi hz hzi hP S ho hl rv ha q
    rw [List.drop_eq_nil_of_le (Nat.le_of_sub_eq_zero (Eq.symm hn))] at q
    have ei : i = vs.length := Nat.le_antisymm hi (Nat.le_of_sub_eq_zero (Eq.symm hn))
    subst ei
    refine codeC_of_tree trivial ?_
    rw [Around.under_of_weight rfl]
    refine wpC_onRaise ?_
    rw [compTurn_list]
    refine wpC_bind (wpC_standAt (wpC_bind (wpC_of (W.stop z _ σ h g d k os trivial hzi hP S _ _ fun z' h' k' off S' => ?_))))
    have ns := fun a o => W.nseq _ z a o hP
    have T : Tle z z' := off.tle fun a o h e => (ns a o h e).1
    exact wpC_pure (hR z' σ acc oc od ws h' k' (fun a ob e => off a ob (fun q => by rw [hown a q] at e; cases e) (hz _ _ e)) S' ho hl (rv.mono T) q)
  | succ n ih =>
    intro i z σ h k acc oc od ws hn hi hz hzi hP S ho hl rv ha q
    have hlt : i < vs.length := Nat.sub_pos_iff_lt.mp (hn ▸ Nat.succ_pos n)
    rw [List.drop_eq_getElem_cons hlt] at q
    refine codeC_of_tree trivial ?_
    rw [Around.under_of_weight rfl]
    refine wpC_onRaise ?_
    rw [compTurn_list]
    refine wpC_bind (wpC_standAt (wpC_bind (wpC_of (W.step i vs[i] z _ σ h g d k os (List.getElem?_eq_getElem hlt) trivial hzi hP S _ _ fun z₁ val h₁ k₁ hP₁ off₁ S₁ rv₁ => ?_))))
    have ns := fun a o => W.nseq _ z a o hP
    have ns₁ := fun a o => W.nseq' _ _ z₁ a o hP₁
    have T₁ : Tle z z₁ := off₁.tle fun a o h e => (ns a o h e).1
    refine wpC_bind (wpC_of (W.go val (i + 1) z₁ _ σ h₁ g d k₁ os hP₁ S₁ _ _ fun z₂ h₂ k₂ hP₂ off₂ S₂ => ?_))
    have T₂ : Tle z₁ z₂ := off₂.tle fun a o h e => (ns₁ a o h e).1
    have Z₂ : Zle z₀ z₂ := fun a ob e => by
      have q : ¬own a := fun q => by rw [hown a q] at e; cases e
      exact off₂ _ _ q (off₁ _ _ q (hz _ _ e))
    -- the name
    have atC : ((fr.set cenv.locals oc).set D od) cenv.locals = some oc := by rw [Fz.set_ne _ _ hDC]; exact Fz.set_self ..
    refine foldg fun G0 fin0 => ?_
    obtain ⟨es, m, e1, e2⟩ := ho
    refine fin0 ?_
    refine wpC_bind (wpC_bind (wpC_standAt (wpC_of (wpAny_bindName (wpAny_storeName_local hx (fr_ns S₂ atC e1 e2) (fun h₃ hn₃ hs₃ => ?_) (by rw [hkind]; rfl))))))
    refine foldg fun G0 fin0 => ?_
    obtain ⟨oc', es', n', f1, f2, f3, f4⟩ := hn₃
    refine fin0 ?_
    have S₃ := S₂.setFr atC (fun x ob hx e => (hs₃.2 x hx).trans e) f1 (fun vs q => by rw [f2] at q; cases q)
    rw [Fz.set_comm _ _ _ (Ne.symm hDC), Fz.set_set] at S₃
    have atC' : ((fr.set cenv.locals oc').set D od) cenv.locals = some oc' := by rw [Fz.set_ne _ _ hDC]; exact Fz.set_self ..
    have up : FrUp fr ((fr.set cenv.locals oc').set D od) := fun L hL => by
      by_cases q : L = D
      · rw [q, Fz.set_self]; rfl
      · refine rwg (Fz.set_ne _ _ q) ?_
        by_cases q : L = cenv.locals
        · rw [q, Fz.set_self]; rfl
        · rw [Fz.set_ne _ _ q]; exact hL
    have see := hseen z₂ _ vs[i] val Z₂ ⟨oc', es', n', atC', f2, f3, by rw [f4]; simp⟩ (rv₁.mono T₂)
    have keepP : ∀ z₃, Zle z₂ z₃ → P (i + 1) z₃ := fun z₃ hz₃ => W.loc _ _ _ hP₂ fun a ha => by
      cases r : z₂ a with
      | none => exact absurd r (W.there _ _ a hP₂ ha)
      | some ob => exact hz₃ _ _ r
    have T02 := T₁.trans T₂
    -- the next turn
    have next : ∀ z₃ σ₃ h₃ k₃ acc' od' ws', Zle z₂ z₃ → Sim C base z₃ ((fr.set cenv.locals oc').set D od') σ₃ h₃ → Lst od' ws' → VRs C z₃ acc' ws'.toList → acc'.length ≤ i + 1 → wAcc (turnC felt ft ρ i₀) (vs.drop (i + 1)) acc' σ₃ Qf →
        codeC (model C.prog C.w) A (.compLoop (.ListComp elt [⟨.Name x px, iter, ifs, 0⟩] scope pos) 0 (.ref it) (.ref D) cenv) R ⟨h₃, g, d, k₃, os⟩ := fun z₃ σ₃ h₃ k₃ acc' od' ws' hz₃ S' l' r' a' q' =>
      ih (i + 1) z₃ σ₃ h₃ k₃ acc' oc' od' ws' (by rw [← Nat.sub_sub, ← hn]; rfl) (by exact (by assumption)) (Z₂.trans hz₃) (hzi.trans (T02.trans hz₃.t)) (keepP z₃ hz₃) S' ⟨es', n', f2, f3⟩ l' r' a' q'
    -- an element
    have elem : ∀ z₃ σ₃ h₃ k₃, Zle z₂ z₃ → Sim C base z₃ ((fr.set cenv.locals oc').set D od) σ₃ h₃ → felt (ρ.set i₀ (some vs[i])) σ₃ (fun x σ => wAcc (turnC felt ft ρ i₀) (vs.drop (i + 1)) (keepOne acc (some x)) σ Qf) noX →
        wpC (model C.prog C.w) A (do
          (do let _ ← call (.builtin "list.append") [.ref D, ← eval elt cenv])
          again (.compLoop (.ListComp elt [⟨.Name x px, iter, ifs, 0⟩] scope pos) 0 (.ref it) (.ref D) cenv)) (ends C.prog C.w A R) (fun e s' => wpC (model C.prog C.w) A (do noteFrame e cenv; theTreesLotGoes e) (fun u_ s'' => R (.error e) s'') (fun e' s'' => R (.error e') s'') s') ⟨h₃, g, d, k₃, os⟩ := fun z₃ σ₃ h₃ k₃ hz₃ S' q' => by
      refine wpC_bind (wpC_bind ?_)
      refine helt z₃ _ _ (Z₂.trans hz₃) up (see.mono hz₃) z₃ σ₃ h₃ k₃ g d os _ noX (Zle.refl _) q' S' (.inr fun u_ x => x) _ _ (fun z₄ σ₄ v w h₄ k₄ hz₄ S₄ rw' q₄ => ?_) (fun u_ u_ u_ u_ u_ u_ u_ x => x.elim)
      have atD : ((fr.set cenv.locals oc').set D od) D = some od := Fz.set_self ..
      refine foldg fun G0 fin0 => ?_
      obtain ⟨⟨sl, g1⟩, g2, g3⟩ := S₄.frs D od atD
      obtain ⟨l1, nl, l2⟩ := hl
      refine fin0 ?_
      have ln := rv.length
      simp only [Array.length_toList] at ln
      refine wpC_bind (wpC_of (wpAny_list_append (s := ⟨h₄, g, d, k₄, os⟩) ⟨_, g1, l1, nl, l2⟩ (fun h₅ hl₅ hs₅ => ?_) (by rw [sizeLine_eq]; lia)))
      refine foldg fun G0 fin0 => ?_
      obtain ⟨od', p1, p2, p3, p4⟩ := hl₅
      refine fin0 ?_
      have S₅ := S₄.setFr atD (fun x ob hx e => hs₅.extBut x ob hx e) p1 (fun vs q => by rw [p4] at q; cases q)
      rw [Fz.set_set] at S₅
      refine wpC_pure (wpC_pure ⟨rfl, next z₄ σ₄ h₅ k₄ (acc ++ [v]) od' (ws.push w) (hz₃.trans hz₄) S₅ ⟨p2, p3, p4⟩ ?_ (by simp; exact (by assumption)) q₄⟩)
      refine rwg Array.toList_push ?_
      exact ((rv.mono T02).mono (hz₃.trans hz₄).t).append (VRs.cons rw' VRs.nil)
    refine foldg fun G0 fin0 => ?_
    rcases htest with ⟨rfl, rfl⟩ | ⟨t, c, rfl, rfl, ht⟩
    · refine fin0 ?_
      refine wpC_bind (wpC_pure ?_)
      refine wpC_yes ?_
      exact elem z₂ σ _ _ (Zle.refl _) S₃ q
    · refine fin0 ?_
      refine wpC_bind (wpC_bind (wpC_bind ?_))
      refine ht z₂ _ _ Z₂ up see z₂ σ _ _ g d os _ noX (Zle.refl _) q S₃ (.inr fun u_ x => x) _ _ (fun z₄ σ₄ b v h₄ k₄ hz₄ S₄ rb q₄ => ?_) (fun u_ u_ u_ u_ u_ u_ u_ x => x.elim)
      subst rb
      refine wpC_pure (wpC_pure ?_)
      cases v with
      | true =>
        refine wpC_yes ?_
        exact elem z₄ σ₄ _ _ hz₄ S₄ q₄
      | false =>
        refine wpC_no ?_
        exact wpC_pure ⟨rfl, next z₄ σ₄ _ _ acc od ws hz₄ S₄ hl ((rv.mono T02).mono hz₄.t) (Nat.le_succ_of_le ha) q₄⟩
end
end Mine
end
section
namespace Mine
theorem inner_cell {ns : Names} {y : Str} (h2 : ns.lookup y = some .cell) {l : Names} : l.lookup y = some .free → (l.map fun p => if p.2 == .free && ns.lookup p.1 == some .cell then (p.1, NameKind.cell) else p).lookup y = some .cell := by
  induction l with
  | nil => exact nofun
  | cons p l ih =>
    obtain ⟨m, k⟩ := p
    intro h
    refine rwg List.map_cons ?_
    by_cases q : (y == m) = true
    · have e := beq_iff_eq.mp q
      subst e
      rw [List.lookup_cons, q] at h
      cases h
      have : (if ((y, NameKind.free).2 == NameKind.free && ns.lookup (y, NameKind.free).1 == some .cell) = true then ((y, NameKind.free).1, NameKind.cell) else (y, NameKind.free)) = (y, NameKind.cell) := by rw [if_pos (by rw [h2]; rfl)]
      rw [this, List.lookup_cons]; simp
    · have q' : (y == m) = false := by simpa using q
      rw [List.lookup_cons, q'] at h
      have ih := ih h
      rw [List.lookup_cons]
      have : (y == (if ((m, k).2 == NameKind.free && ns.lookup (m, k).1 == some .cell) = true then ((m, k).1, NameKind.cell) else (m, k)).1) = false := by split <;> exact q'
      rw [this]; exact ih
theorem inner_local {ns : Names} {y : Str} {l : Names} : l.lookup y = some .local → (l.map fun p => if p.2 == .free && ns.lookup p.1 == some .cell then (p.1, NameKind.cell) else p).lookup y = some .local := by
  induction l with
  | nil => exact nofun
  | cons p l ih =>
    obtain ⟨m, k⟩ := p
    intro h
    rw [List.map_cons, List.lookup_cons]
    have e1 : (y == (if ((m, k).2 == NameKind.free && ns.lookup (m, k).1 == some .cell) = true then ((m, k).1, NameKind.cell) else (m, k)).1) = (y == m) := by split <;> rfl
    rw [e1]
    rw [List.lookup_cons] at h
    by_cases q : (y == m) = true
    · rw [q] at h ⊢
      cases h
      rw [if_neg (by simp)]
    · have q' : (y == m) = false := by simpa using q
      rw [q'] at h ⊢
      exact ih h
theorem free_mem {y : Str} {l : Names} : ∀ {k : NameKind}, l.lookup y = some k → (y, k) ∈ l := by
  induction l with
  | nil => exact nofun
  | cons p l ih =>
    intro k h
    rw [List.lookup_cons] at h
    by_cases q : (y == p.1) = true
    · rw [q] at h; cases h; rw [beq_iff_eq.mp q]; exact .head _
    · have q' : (y == p.1) = false := by simpa using q
      rw [q'] at h; exact .tail _ (ih h)
noncomputable def CellsOk (env : Env) (ns : Names) : Prop := ∀ y, ns.lookup y = some .cell → ∃ c, env.cells.lookup y = some c
structure ScopeFacts (ns : Names) (x : Str) (sc : Scope) : Prop where
  kind : sc.kind = .function
  x : sc.names.lookup x = some .local
  all : ∀ p ∈ sc.names, p.2 ≠ .cell ∧ (p.2 = .free → ns.lookup p.1 = some .cell) ∧ (p.2 = .local → sc.names.lookup p.1 = some .local)
theorem scope_facts {ns : Names} {vis : Vis} {i : Nat} {x : Str} {sc : Scope} (h : scopeOk ns vis i x sc = true) : ScopeFacts ns x sc := by
  unfold scopeOk at h
  simp only [Bool.and_eq_true, beq_iff_eq, List.all_eq_true, Bool.or_eq_true, bne_iff_ne, ne_eq] at h
  obtain ⟨⟨h1, h2⟩, h3⟩ := h
  refine ⟨h1, h2, fun p hp => ?_⟩
  obtain ⟨⟨a, b⟩, c⟩ := h3 p hp
  exact ⟨a, fun q => b.resolve_left fun n => n q, fun q => c.resolve_left fun n => n q⟩
section
variable {C : Cx} {base : Heap} {A : Around} {l : List Env} {z₀ z zi fr : Fz} {σ : Store} {h : Heap} {env : Env} {ns : Names} {vis : Vis} {g : Array GenState} {d : Drawn} {os : OsState} {k : Tok} {ρ : Loc} {it : Addr}
theorem relabel_names (ok : EnvOk env ns) (sc : Scope) : (relabel sc env).names = innerNames ns sc := by
  unfold relabel innerNames
  refine List.map_congr_left fun p u_ => ?_
  obtain ⟨n, k⟩ := p
  have : env.kindOf n = ns.lookup n := by unfold Env.kindOf; rw [ok.names]
  dsimp only
  refine rwg this ?_
  refine rwg ok.kind ?_
  simp
theorem inner_ok (ok : EnvOk env ns) {x : Str} {sc : Scope} (sf : ScopeFacts ns x sc) (cl : List (Str × Addr)) (Cc : Addr) : EnvOk (compEnvC sc cl Cc env) (innerNames ns sc) :=
  ⟨sf.kind, relabel_names ok sc, ok.glob, ok.bui⟩
theorem inner_cells (ok : EnvOk env ns) (cok : CellsOk env ns) {x : Str} {sc : Scope} (sf : ScopeFacts ns x sc) {cl : List (Str × Addr)} (hcl : ∀ n, (n, NameKind.free) ∈ sc.names → cl.lookup n = env.cells.lookup n) (Cc : Addr) :
    CellsOk (compEnvC sc cl Cc env) (innerNames ns sc) := fun y hy => by
  have hm := free_mem hy
  obtain ⟨p, hp, e⟩ := List.mem_map.mp hm
  split at e
  · rename_i q
    simp only [Bool.and_eq_true, beq_iff_eq] at q
    have e1 : p.1 = y := congrArg Prod.fst e
    have : (y, NameKind.free) ∈ sc.names := by rw [← e1, ← q.1]; exact hp
    show ∃ c, cl.lookup y = some c
    refine rwg (hcl y this) ?_
    exact cok y (by rw [← e1]; exact q.2)
  · rw [e] at hp; exact absurd rfl (sf.all _ hp).1
theorem inner_seen (ok : EnvOk env ns) (er : EnvR C z₀ fr env ρ vis) {x : Str} {sc : Scope} (sf : ScopeFacts ns x sc) {cl : List (Str × Addr)} (hcl : ∀ n, (n, NameKind.free) ∈ sc.names → cl.lookup n = env.cells.lookup n) (Cc : Addr)
    {i : Nat} (hi : i < ρ.length) {fr' : Fz} {v : V} {val : Value} (hz : Zle z₀ z) (ho : ∃ oc es n, fr' Cc = some oc ∧ oc.data = .dict es n ∧ StrKeys es ∧ nsFind es x = some val) (rv : VR C z v val) :
    EnvR C z fr' (compEnvC sc cl Cc env) (ρ.set i (some v)) (innerVis ns vis i x sc) := fun p hp v' hv' => by
  have kindE : ∀ y, (compEnvC sc cl Cc env).kindOf y = (innerNames ns sc).lookup y := fun y => by
    show List.lookup y (relabel sc env).names = _
    rw [relabel_names ok]
  rcases List.mem_cons.mp hp with rfl | hp
  · rw [List.getElem?_set_self hi] at hv'
    cases hv'
    obtain ⟨oc, es, n, h1, h2, h3, h4⟩ := ho
    exact ⟨val, .inl ⟨(kindE x).trans (inner_local sf.x), oc, es, n, h1, h2, h3, h4⟩, rv⟩
  · obtain ⟨hp, hq⟩ := List.mem_filter.mp hp
    simp only [Bool.and_eq_true, beq_iff_eq, bne_iff_ne, ne_eq] at hq
    obtain ⟨⟨⟨q1, q2⟩, q3⟩, q4⟩ := hq
    rw [List.getElem?_set_ne (fun e => q4 e.symm)] at hv'
    obtain ⟨val', r1, r2⟩ := er p hp v' hv'
    refine ⟨val', ?_, r2.mono hz.t⟩
    have ke : env.kindOf p.2 = some .cell := by unfold Env.kindOf; rw [ok.names]; exact q1
    rcases r1 with ⟨r1, _⟩ | ⟨_, c, o, r3, r4, r5⟩
    · rw [ke] at r1; cases r1
    · exact .inr ⟨(kindE p.2).trans (inner_cell q1 q2), c, o, (hcl _ (free_mem q2)).trans r3, hz _ _ r4, r5⟩
theorem comp_core {vs : List V} {own : Addr → Prop} {P : Nat → Fz → Prop} {P' : Nat → Value → Fz → Prop} {x : Str} {px : Pos} (W : IterOk C base A it zi (fun u_ => True) vs (.Name x px) own P P')
    (ok : EnvOk env ns) (cok : CellsOk env ns) (er : EnvR C z₀ fr env ρ vis) {felt : Loc → Tr V} {ft : Option (Loc → Tr Bool)} {i₀ : Nat} (hi : i₀ < ρ.length) {elt iter : PySem.Expr} {ifs : List PySem.Expr} {scope : Scope} {pos : Pos}
    (sf : ScopeFacts ns x scope) {cl : List (Str × Addr)} (hcl : ∀ n, (n, NameKind.free) ∈ scope.names → cl.lookup n = env.cells.lookup n)
    (helt : ∀ z fr' ρ' Cc, Zle z₀ z → FrUp fr fr' → EnvOk (compEnvC scope cl Cc env) (innerNames ns scope) → CellsOk (compEnvC scope cl Cc env) (innerNames ns scope) → EnvR C z fr' (compEnvC scope cl Cc env) ρ' (innerVis ns vis i₀ x scope) →
      Ref C base l z fr' A (eval elt (compEnvC scope cl Cc env)) (felt ρ') (VR C))
    (htest : (ft = none ∧ ifs = []) ∨ ∃ t c, ft = some t ∧ ifs = [c] ∧ ∀ z fr' ρ' Cc, Zle z₀ z → FrUp fr fr' → EnvOk (compEnvC scope cl Cc env) (innerNames ns scope) → CellsOk (compEnvC scope cl Cc env) (innerNames ns scope) → EnvR C z fr' (compEnvC scope cl Cc env) ρ' (innerVis ns vis i₀ x scope) →
      Ref C base l z fr' A (isTrue c (compEnvC scope cl Cc env) (eval c (compEnvC scope cl Cc env))) (t ρ') (fun u_ b v => v = b))
    (hz : Zle z₀ z) (hown : ∀ a, own a → z₀ a = none) (hzi : Tle zi z) (hP : P 0 z) (hself : ∀ z fr σ (s : Shared), P 0 z → Sim C base z fr σ s.heap → ∀ (Q : Value → Shared → Prop) (E : Value → Shared → Prop), Q (.ref it) s → wpAny (model C.prog C.w) A (pyIter (.ref it)) Q E s)
    (S : Sim C base z fr σ h) (hsz : vs.length ≤ 100000) {Qf : List V → Store → Prop} {RR : Value → Addr → Result → Shared → Prop} {E : Value → Shared → Prop} (q : wAcc (turnC felt ft ρ i₀) vs [] σ Qf)
    (hR : ∀ D Cc z' σ' acc' oc' od' ws' h' k', Zle z₀ z' → fr D = none → fr Cc = none → Cc ≠ D → Sim C base z' ((fr.set Cc oc').set D od') σ' h' → NsO oc' → Lst od' ws' → VRs C z' acc' ws'.toList → Qf acc' σ' → RR (.ref D) Cc (.ok .next) ⟨h', g, d, k', os⟩) :
    wpAny (model C.prog C.w) A (newList []) (fun acc s₃ => wpAny (model C.prog C.w) A (newFunctionEnv scope env.globals cl [] env.qual none .none (some env)) (fun cenv s₄ =>
      codeC (model C.prog C.w) A (.compStart (.ListComp elt [⟨.Name x px, iter, ifs, 0⟩] scope pos) 0 (.ref it) acc { cenv with scope := relabel scope env }) (RR acc cenv.locals) s₄) E s₃) E ⟨h, g, d, k, os⟩ := by
  refine wpAny_newObj_type (wpAny_newFunctionEnv (fun p hp => (sf.all p hp).1) (by intro y hy; simp at hy) (fun h₁ hns₁ hsb₁ => ?_) sf.kind)
  dsimp only at hns₁ hsb₁ ⊢
  generalize hH2 : h.push { cls := .type "list", dict := none, data := .seq ([] : List Value).toArray } = H2 at hns₁ hsb₁ ⊢
  have hC : H2.objs.size = h.objs.size + 1 := by rw [← hH2, Heap.size_push]
  have hCD : H2.objs.size ≠ h.objs.size := by rw [hC]; exact Nat.succ_ne_self _
  obtain ⟨_, fD, _, _, _⟩ := S.new_off (get_size h)
  have S₁ : Sim C base z (fr.set h.objs.size { cls := .type "list", dict := none, data := .seq ([] : List Value).toArray }) σ H2 := by
    refine rwl hH2 ?_
    exact S.newFr (get_size h) (fun x ob e => Heap.get?_push_of_some _ e) (Heap.get?_push_size _ rfl) (fun vs q => by cases q)
  obtain ⟨_, fC, _, _, _⟩ := S₁.new_off (get_size H2)
  have fC' : fr H2.objs.size = none := by rwa [Fz.set_ne _ _ hCD] at fC
  obtain ⟨oc, es, n, g1, g2, g3, g4⟩ := hns₁
  have S₂ := S₁.newFr (h' := h₁) (get_size H2) (fun x ob e => hsb₁.extBut x ob (Nat.ne_of_lt (Heap.lt_size e)) (Heap.get?_push_of_some _ e)) g1 (fun vs q => by rw [g2] at q; cases q)
  rw [Fz.set_comm _ _ _ (Ne.symm hCD)] at S₂
  have loop := fun k' => comp_loop (R := RR (.ref h.objs.size) H2.objs.size) (cenv := compEnvC scope cl H2.objs.size env) (D := h.objs.size) (ρ := ρ) (i₀ := i₀) (pos := pos) (scope := scope) (iter := iter) (vis := innerVis ns vis i₀ x scope) (fr := fr) (z₀ := z₀) (l := l) (g := g) (d := d) (os := os) (Qf := Qf) W
    (show List.lookup x (relabel scope env).names = _ by rw [relabel_names ok]; exact inner_local sf.x) sf.kind
    (fun z' fr' v val hz' ho rv => inner_seen ok er sf hcl _ hi hz' ho rv)
    (fun z' fr' ρ' hz' up er' => helt z' fr' ρ' _ hz' up (inner_ok ok sf _ _) (inner_cells ok cok sf hcl _) er')
    (htest.imp id fun h => h.imp fun t h => h.imp fun c h => ⟨h.1, h.2.1, fun z' fr' ρ' hz' up er' => h.2.2 z' fr' ρ' _ hz' up (inner_ok ok sf _ _) (inner_cells ok cok sf hcl _) er'⟩)
    hown hCD hsz (fun z' σ' acc' oc' od' ws' h' k' z1 S' o' l' r' q' => hR _ _ z' σ' acc' oc' od' ws' h' k' z1 fD fC' hCD S' o' l' r' q')
    vs.length 0 z σ h₁ k' [] oc _ #[] rfl (Nat.zero_le _) hz hzi hP S₂ ⟨es, n, g2, g3⟩ ⟨rfl, 0, rfl⟩ VRs.nil (Nat.le_refl _) (by simpa using q)
  exact compStart_C (loop _) (hself z _ σ _ hP S₂ _ _ (loop _))
theorem comp_done {D Cc : Addr} {oc od : Obj} {ws : Array Value} {acc : List V} (S : Sim C base z ((fr.set Cc oc).set D od) σ h) (hD : fr D = none) (hC : fr Cc = none) (hne : Cc ≠ D) (hl : Lst od ws) (rv : VRs C z acc ws.toList) {h' : Heap} (hs : Heap.SameBut Cc h h') :
    ∃ z', Zle z z' ∧ Sim C base z' fr σ h' ∧ VR C z' (.list acc) (.ref D) := by
  have atD : ((fr.set Cc oc).set D od) D = some od := Fz.set_self ..
  have atC : ((fr.set Cc oc).set D od) Cc = some oc := by rw [Fz.set_ne _ _ hne]; exact Fz.set_self ..
  have none_z : ∀ a o, ((fr.set Cc oc).set D od) a = some o → z a = none := fun a o e => by
    cases q : z a with
    | none => rfl
    | some ob => have := (S.fz a ob q).2.2; rw [e] at this; cases this
  have no_own : ∀ a o, ((fr.set Cc oc).set D od) a = some o → ¬ Own σ h a := fun a o e => by
    rintro (⟨ob, q⟩ | ⟨b, c, fs, q, dd⟩)
    · have := (S.off a ob q).2.1; rw [e] at this; cases this
    · have := (S.offD b c fs a q dd).2.1; rw [e] at this; cases this
  have S₁ : Sim C base z fr σ h := S.lessFr fun a o e => by
    refine ⟨o, ?_, o.slots, rfl⟩
    rw [Fz.set_ne _ _ (fun q => by rw [q, hD] at e; cases e), Fz.set_ne _ _ (fun q => by rw [q, hC] at e; cases e)]
    exact e
  have S₂ := S₁.other (h' := h') (none_z _ _ atC) hC (S.frs _ _ atC).2.2 (no_own _ _ atC) fun x ob hx e => hs.extBut x ob hx e
  obtain ⟨⟨sl, g1⟩, g2, g3⟩ := S.frs D od atD
  have gD := hs.extBut D _ (Ne.symm hne) g1
  have S₃ := S₂.freeze gD (none_z _ _ atD) hD g3 (by
    rintro (⟨ob, q⟩ | ⟨b, c, fs, q, dd⟩)
    · exact no_own _ _ atD (.inl ⟨ob, q⟩)
    · obtain ⟨ob, ho⟩ := (S₁.cell b _ q).there
      refine no_own _ _ atD (.inr ⟨b, c, fs, q, dd.keep ho (hs.extBut b _ (fun e => ?_) ho)⟩)
      have := (S.off b _ q).2.1
      rw [e, atC] at this; cases this)
  obtain ⟨l1, n, l2⟩ := hl
  refine ⟨_, Zle.set (none_z _ _ atD), S₃, ?_⟩
  exact ⟨D, _, ws, n, rfl, Fz.set_self .., l1, l2, rv.mono (Zle.set (none_z _ _ atD)).t⟩
end
end Mine
end
section
namespace Mine
theorem wComp_acc {felt : Loc → Tr V} {ft : Option (Loc → Tr Bool)} {i : Nat} {ρ : Loc} {items : List V} {σ : Store} {Q : V → Store → Prop} (h : wComp felt ft i ρ items σ Q) :
    i < ρ.length ∧ wAcc (turnC felt ft ρ i) items [] σ fun xs σ => xs.length ≤ 100000 ∧ Q (.list xs) σ := h
section
variable {C : Cx} {base : Heap} {A : Around} {l : List Env} {z₀ z zi fr fr₀ : Fz} {σ : Store} {h : Heap} {env : Env} {ns : Names} {vis : Vis} {g : Array GenState} {d : Drawn} {os : OsState} {k : Tok} {ρ : Loc} {it L : Addr} {mg mb : Str → Option Value}
structure InComp (C : Cx) (base : Heap) (l : List Env) (z fr : Fz) (A : Around) (env : Env) (ns : Names) (vis : Vis) (i : Nat) (x : Str) (sc : Scope) (elt : PySem.Expr) (ifs : List PySem.Expr) (felt : Loc → Tr V) (ft : Option (Loc → Tr Bool)) : Prop where
  elt : ∀ cl z' fr' ρ' Cc, Zle z z' → FrUp fr fr' → EnvOk (compEnvC sc cl Cc env) (innerNames ns sc) → CellsOk (compEnvC sc cl Cc env) (innerNames ns sc) → EnvR C z' fr' (compEnvC sc cl Cc env) ρ' (innerVis ns vis i x sc) →
      Ref C base l z' fr' A (eval elt (compEnvC sc cl Cc env)) (felt ρ') (VR C)
  test : (ft = none ∧ ifs = []) ∨ ∃ t c, ft = some t ∧ ifs = [c] ∧ ∀ cl z' fr' ρ' Cc, Zle z z' → FrUp fr fr' → EnvOk (compEnvC sc cl Cc env) (innerNames ns sc) → CellsOk (compEnvC sc cl Cc env) (innerNames ns sc) → EnvR C z' fr' (compEnvC sc cl Cc env) ρ' (innerVis ns vis i x sc) →
      Ref C base l z' fr' A (isTrue c (compEnvC sc cl Cc env) (eval c (compEnvC sc cl Cc env))) (t ρ') (fun u_ b v => v = b)
theorem InComp.mono {i : Nat} {x : Str} {sc : Scope} {elt : PySem.Expr} {ifs : List PySem.Expr} {felt : Loc → Tr V} {ft : Option (Loc → Tr Bool)} (I : InComp C base l z₀ fr A env ns vis i x sc elt ifs felt ft) (hz : Zle z₀ z) :
    InComp C base l z fr A env ns vis i x sc elt ifs felt ft :=
  ⟨fun cl z' fr' ρ' Cc h => I.elt cl z' fr' ρ' Cc (hz.trans h), I.test.imp id fun h => h.imp fun t h => h.imp fun c h => ⟨h.1, h.2.1, fun cl z' fr' ρ' Cc k => h.2.2 cl z' fr' ρ' Cc (hz.trans k)⟩⟩
noncomputable def Ends (C : Cx) (base : Heap) (z fr : Fz) (g : Array GenState) (d : Drawn) (os : OsState) (Q : V → Store → Prop) (RR : Value → Addr → Result → Shared → Prop) : Prop :=
  ∀ D Cc z' σ' acc oc od ws h' k', Zle z z' → fr D = none → fr Cc = none → Cc ≠ D → Sim C base z' ((fr.set Cc oc).set D od) σ' h' → NsO oc → Lst od ws → VRs C z' acc ws.toList → Q (.list acc) σ' → RR (.ref D) Cc (.ok .next) ⟨h', g, d, k', os⟩
theorem comp_rng (hh : HOk base A) (ok : EnvOk env ns) (cok : CellsOk env ns) (er : EnvR C z fr env ρ vis) {felt : Loc → Tr V} {ft : Option (Loc → Tr Bool)} {i₀ : Nat} {x : Str} {px : Pos} {elt iter : PySem.Expr} {ifs : List PySem.Expr} {scope : Scope} {pos : Pos}
    (sf : ScopeFacts ns x scope) {cl : List (Str × Addr)} (hcl : ∀ n, (n, NameKind.free) ∈ scope.names → cl.lookup n = env.cells.lookup n) (I : InComp C base l z fr A env ns vis i₀ x scope elt ifs felt ft)
    (S : Sim C base z fr σ h) {items : List V} {a : Addr} (ri : RngIs items z a) (hsz : items.length ≤ 100000) {Q : V → Store → Prop} {RR : Value → Addr → Result → Shared → Prop} {E : Value → Shared → Prop} (q : wComp felt ft i₀ ρ items σ Q) (hR : Ends C base z fr g d os Q RR) :
    wpAny (model C.prog C.w) A (pyIter (.ref a)) (fun it s₂ => wpAny (model C.prog C.w) A (newList []) (fun acc s₃ => wpAny (model C.prog C.w) A (newFunctionEnv scope env.globals cl [] env.qual none .none (some env)) (fun cenv s₄ =>
      codeC (model C.prog C.w) A (.compStart (.ListComp elt [⟨.Name x px, iter, ifs, 0⟩] scope pos) 0 it acc { cenv with scope := relabel scope env }) (RR acc cenv.locals) s₄) E s₃) E s₂) E ⟨h, g, d, k, os⟩ := by
  obtain ⟨lo, hi, st, n, t, u, v, e1, rfl, e3, e4, e5⟩ := ri
  refine wpAny_pyIter_range (s := ⟨h, g, d, k, os⟩) (S.fz a _ e1).1 e3 ?_
  refine rwg e4 ?_
  obtain ⟨S₃, Z, nz⟩ := S.pushZ { cls := .type "range_iterator", data := .fields #[rawInt lo, rawInt (n : Int), rawInt st] }
  obtain ⟨hi, q⟩ := wComp_acc q
  refine comp_core (zi := z) (iter_range hh (it := h.objs.size) (a := lo) (c := st) (n := n)) ok cok er hi sf hcl (I.elt cl) (I.test.imp id fun h => h.imp fun t h => h.imp fun c h => ⟨h.1, h.2.1, h.2.2 cl⟩) Z (fun a e => by subst e; exact nz) Z.t ?_ (fun z fr σ s hP S Q E hQ => ?_) S₃ hsz q
    (fun D Cc z' σ' acc oc od ws h' k' z1 f1 f2 ne S' o' l' r' q' => hR D Cc z' σ' acc oc od ws h' k' z1 f1 f2 ne S' o' l' r' q'.2)
  · show (z.set _ _) _ = _
    rw [Fz.set_self]; simp
  · exact wpAny_pyIter_rangeiter (S.fz _ _ hP).1 hQ
theorem comp_lst (hh : HOk base A) (ok : EnvOk env ns) (cok : CellsOk env ns) (er : EnvR C z fr env ρ vis) {felt : Loc → Tr V} {ft : Option (Loc → Tr Bool)} {i₀ : Nat} {x : Str} {px : Pos} {elt iter : PySem.Expr} {ifs : List PySem.Expr} {scope : Scope} {pos : Pos}
    (sf : ScopeFacts ns x scope) {cl : List (Str × Addr)} (hcl : ∀ n, (n, NameKind.free) ∈ scope.names → cl.lookup n = env.cells.lookup n) (I : InComp C base l z fr A env ns vis i₀ x scope elt ifs felt ft)
    (S : Sim C base z fr σ h) {items : List V} {val : Value} (ri : VR C z (.list items) val) (hsz : items.length ≤ 100000) {Q : V → Store → Prop} {RR : Value → Addr → Result → Shared → Prop} {E : Value → Shared → Prop} (q : wComp felt ft i₀ ρ items σ Q) (hR : Ends C base z fr g d os Q RR) :
    wpAny (model C.prog C.w) A (pyIter val) (fun it s₂ => wpAny (model C.prog C.w) A (newList []) (fun acc s₃ => wpAny (model C.prog C.w) A (newFunctionEnv scope env.globals cl [] env.qual none .none (some env)) (fun cenv s₄ =>
      codeC (model C.prog C.w) A (.compStart (.ListComp elt [⟨.Name x px, iter, ifs, 0⟩] scope pos) 0 it acc { cenv with scope := relabel scope env }) (RR acc cenv.locals) s₄) E s₃) E s₂) E ⟨h, g, d, k, os⟩ := by
  obtain ⟨la, ol, ws, n, rfl, e1, e2, e3, rv⟩ := ri.list_inv
  refine wpAny_pyIter_list (s := ⟨h, g, d, k, os⟩) ⟨_, (S.fz la _ e1).1, e2, n, e3⟩ ?_
  obtain ⟨S₃, Z, nz⟩ := S.pushZ { cls := .type "list_iterator", data := .fields #[.ref la, .int 0 0] }
  obtain ⟨hi, q⟩ := wComp_acc q
  refine comp_core (zi := z) (iter_list hh (it := h.objs.size) (la := la) fun z' fr' σ' h' u_ t S' => ⟨ws, ⟨_, (S'.fz la _ (t _ _ e1 ⟨_, _, e3⟩)).1, e2, n, e3⟩, rv.mono t⟩) ok cok er hi sf hcl (I.elt cl) (I.test.imp id fun h => h.imp fun t h => h.imp fun c h => ⟨h.1, h.2.1, h.2.2 cl⟩) Z (fun a e => by subst e; exact nz) Z.t
    ⟨_, Fz.set_self .., rfl, rfl⟩ (fun z fr σ s hP S Q E hQ => ?_) S₃ hsz q
    (fun D Cc z' σ' acc oc od ws h' k' z1 f1 f2 ne S' o' l' r' q' => hR D Cc z' σ' acc oc od ws h' k' z1 f1 f2 ne S' o' l' r' q'.2)
  obtain ⟨o, p1, p2, p3⟩ := hP
  exact wpAny_pyIter_listiter (l := la) (i := 0) ⟨o, (S.fz _ _ p1).1, p2, p3⟩ hQ
theorem closure_ok (ok : EnvOk env ns) (cok : CellsOk env ns) {x : Str} {sc : Scope} (sf : ScopeFacts ns x sc) : ∃ cl, closureFor sc env = pure cl ∧ ∀ n, (n, NameKind.free) ∈ sc.names → cl.lookup n = env.cells.lookup n :=
  closure_for fun p hp hf => cok p.1 ((sf.all p hp).2.1 hf)
theorem ends_none {Q : V → Store → Prop} {Q' : Value → Shared → Prop} {E' : Value → Shared → Prop} (hQ : PostR C base z fr g d os (VR C) Q Q') : Ends C base z fr g d os Q fun acc Cc => compPost (model C.prog C.w) A E' none Q' acc Cc := by
  intro D Cc z' σ' acc oc od ws h' k' z1 f1 f2 ne S' o' l' r' q'
  obtain ⟨es, n, e1, e2⟩ := o'
  refine ⟨_, fr_ns S' (by rw [Fz.set_ne _ _ ne]; exact Fz.set_self ..) e1 e2, fun h'' hs => ?_⟩
  obtain ⟨z'', z2, S'', rv⟩ := comp_done S' f1 f2 ne l' r' hs
  exact hQ z'' σ' _ _ h'' k' (z1.trans z2) S'' rv q'
noncomputable def SrcOk (C : Cx) (base : Heap) (A : Around) (l : List Env) (env : Env) (ns : Names) (vis : Vis) (rel : Fz → List V → Value → Prop) : Prop :=
  ∀ (z fr : Fz) (σ : Store) (h : Heap) (k : Tok) (g : Array GenState) (d : Drawn) (os : OsState) (ρ : Loc) (felt : Loc → Tr V) (ft : Option (Loc → Tr Bool)) (i₀ : Nat) (x : Str) (px : Pos) (elt iter : PySem.Expr) (ifs : List PySem.Expr) (scope : Scope) (pos : Pos)
    (cl : List (Str × Addr)) (items : List V) (val : Value) (Q : V → Store → Prop) (RR : Value → Addr → Result → Shared → Prop) (E : Value → Shared → Prop), EnvR C z fr env ρ vis → ScopeFacts ns x scope → (∀ n, (n, NameKind.free) ∈ scope.names → cl.lookup n = env.cells.lookup n) →
    InComp C base l z fr A env ns vis i₀ x scope elt ifs felt ft → Sim C base z fr σ h → rel z items val → wComp felt ft i₀ ρ items σ Q → Ends C base z fr g d os Q RR →
    wpAny (model C.prog C.w) A (pyIter val) (fun it s₂ => wpAny (model C.prog C.w) A (newList []) (fun acc s₃ => wpAny (model C.prog C.w) A (newFunctionEnv scope env.globals cl [] env.qual none .none (some env)) (fun cenv s₄ =>
      codeC (model C.prog C.w) A (.compStart (.ListComp elt [⟨.Name x px, iter, ifs, 0⟩] scope pos) 0 it acc { cenv with scope := relabel scope env }) (RR acc cenv.locals) s₄) E s₃) E s₂) E ⟨h, g, d, k, os⟩
noncomputable def RngR (z : Fz) (items : List V) (v : Value) : Prop := ∃ a, v = .ref a ∧ RngIs items z a
noncomputable def LstR (C : Cx) (z : Fz) (items : List V) (v : Value) : Prop := VR C z (.list items) v ∧ items.length ≤ 100000
theorem src_rng (hh : HOk base A) (ok : EnvOk env ns) (cok : CellsOk env ns) : SrcOk C base A l env ns vis RngR :=
  fun z fr σ h k g d os ρ felt ft i₀ x px elt iter ifs scope pos cl items val Q RR E er sf c2 I S ri q hR => by
    obtain ⟨a, rfl, ri⟩ := ri
    have hsz : items.length ≤ 100000 := by
      obtain ⟨lo, hi, st, n, t, u, v, e1, rfl, e3, e4, e5⟩ := ri
      simpa using e5
    exact comp_rng hh ok cok er sf c2 I S ri hsz q hR
theorem src_lst (hh : HOk base A) (ok : EnvOk env ns) (cok : CellsOk env ns) : SrcOk C base A l env ns vis (LstR C) :=
  fun z fr σ h k g d os ρ felt ft i₀ x px elt iter ifs scope pos cl items val Q RR E er sf c2 I S ri q hR => comp_lst hh ok cok er sf c2 I S ri.1 ri.2 q hR
noncomputable def cLst (f : Tr V) : Tr (List V) := fun σ Q X => f σ (fun v σ => Ex2 (fun items => v = .list items ∧ items.length ≤ 100000) fun items => Q items σ) X
theorem ref_lst {src : PySem.Expr} {fs : Tr V} (ha : Ref C base l z fr A (eval src env) fs (VR C)) : Ref C base l z fr A (eval src env) (cLst fs) (LstR C) := by
  intro z₁ σ h k g d os Q X hz q S hX Q' E' hQ hE
  refine ha z₁ σ h k g d os _ X hz q S hX _ _ (fun z₂ σ₂ v val h₂ k₂ hz₂ S₂ rv q₂ => ?_) hE
  obtain ⟨items, ⟨rfl, hl⟩, q₂⟩ := q₂
  exact hQ z₂ σ₂ items val h₂ k₂ hz₂ S₂ ⟨rv, hl⟩ q₂
noncomputable def cComp (fsrc : Tr (List V)) (felt : Loc → Tr V) (ft : Option (Loc → Tr Bool)) (i₀ : Nat) (ρ : Loc) : Tr V := fun σ Q X => fsrc σ (fun items σ => wComp felt ft i₀ ρ items σ Q) X
theorem ref_comp {rel : Fz → List V → Value → Prop} (W : SrcOk C base A l env ns vis rel) (ok : EnvOk env ns) (cok : CellsOk env ns) (er : EnvR C z fr env ρ vis) {x : Str} {px pos' : Pos} {fsrc : Tr (List V)} {felt : Loc → Tr V} {ft : Option (Loc → Tr Bool)} {i₀ : Nat} {elt src : PySem.Expr} {ifs : List PySem.Expr} {scope : Scope}
    (hs : notSet src = true) (hb : Ref C base l z fr A (eval src env) fsrc rel) (sf : ScopeFacts ns x scope) (I : InComp C base l z fr A env ns vis i₀ x scope elt ifs felt ft) :
    Ref C base l z fr A (eval (.ListComp elt [⟨.Name x px, src, ifs, 0⟩] scope pos') env) (cComp fsrc felt ft i₀ ρ) (VR C) := by
  intro z₁ σ h k g d os Q X hz q S hX Q' E' hQ hE
  obtain ⟨cl, c1, c2⟩ := closure_ok ok cok sf
  rw [eval_ListComp]
  refine comprehension_C (use := none) rfl (fun u_ => folded_no hs) c1 sf.kind (fun y hy => (sf.all y hy).2.2) ?_
  refine hb z₁ σ h k g d os _ X hz q S hX _ _ (fun z₂ σ₂ items val h₂ k₂ hz₂ S₂ rv q₂ => ?_) hE
  exact W z₂ fr σ₂ h₂ k₂ g d os ρ felt ft i₀ x px elt src ifs scope pos' cl items val Q _ E' (er.mono (hz.trans hz₂)) sf c2 (I.mono (hz.trans hz₂)) S₂ rv q₂ (ends_none (hQ.mono hz₂))
theorem s_asg_comp (B : BlockOk env L ns vis) {rel : Fz → List V → Value → Prop} {x y : Str} {px py pos' pos : Pos} {i i₀ : Nat} {fsrc : Loc → Tr (List V)} {felt : Loc → Tr V} {ft : Option (Loc → Tr Bool)} {elt src : PySem.Expr} {ifs : List PySem.Expr} {scope : Scope}
    (W : CellsOk env ns → SrcOk C base A l env ns vis rel) (hs : notSet src = true) (hv : (i, y) ∈ vis) (hb : RefX C base l z₀ fr₀ A env L vis (eval src env) fsrc rel) (sf : ScopeFacts ns x scope) (I : ∀ z o, Zle z₀ z → InComp C base l z (fr₀.set L o) A env ns vis i₀ x scope elt ifs felt ft) :
    RefS C base l z₀ fr₀ A env L vis (exec (.Assign [.Name y py] (.ListComp elt [⟨.Name x px, src, ifs, 0⟩] scope pos') pos) env) (cAsg (fun ρ => cComp (fsrc ρ) felt ft i₀ ρ) (fun v ρ σ Q u_ => i < ρ.length ∧ Q (ρ.set i (some v)) σ)) := by
  intro z o ρ σ h k g d os Q X hz H q S hX Q' E' hQ hE
  have cok : CellsOk env ns := fun y hy => by
    obtain ⟨c, v, oc, h1, _⟩ := H.cell y (by unfold Env.kindOf; rw [B.names]; exact hy)
    exact ⟨c, h1⟩
  cases hsw : (env.blockKind == .function && env.kindOf y == some .local && py.line == pos'.line && !(scope.names.any fun (n, k) => n == y && (k == .local || k == .cell))) with
  | false =>
    have hn : swapsWith (.ListComp elt [⟨.Name x px, src, ifs, 0⟩] scope pos') (some (.Name y py)) pos.line env = pure false := by
      show pure _ = pure _
      exact congrArg pure hsw
    refine s_asg (t := .Name y py) (tr := fun v ρ σ Q u_ => i < ρ.length ∧ Q (ρ.set i (some v)) σ) hn ?_ (asg_plain (fun u_ u_ u_ => nofun) (fun u_ u_ => nofun) (fun u_ u_ => nofun) (tgt_x B hv)) z o ρ σ h k g d os Q X hz H q S hX Q' E' hQ hE
    exact fun z' o' ρ' hz' H' => ref_comp (W cok) B.toEnvOk cok H'.seen hs (hb z' o' ρ' hz' H') sf (I z' o' hz')
  | true =>
    have hn : swapsWith (.ListComp elt [⟨.Name x px, src, ifs, 0⟩] scope pos') (some (.Name y py)) pos.line env = pure true := by
      show pure _ = pure _
      exact congrArg pure hsw
    have hk : env.kindOf y = some .local := by
      simp only [Bool.and_eq_true, beq_iff_eq] at hsw
      exact hsw.1.1.2
    obtain ⟨cl, c1, c2⟩ := closure_ok B.toEnvOk cok sf
    refine rwg (exec_Assign_Name_used _ _ _ _ hn) ?_
    refine wpC_bind (wpC_standAt (wpC_bind ?_))
    refine wpC_bind (wpC_mono (Q := fun u_ s' => Q' .next s') ?_ (fun u_ s' hq => wpC_pure (wpC_pure hq)) fun u_ u_ e => e)
    refine comprehension_C (use := some (assign (.Name y py) env)) (Q := fun u_ s' => Q' .next s') rfl (fun u_ => folded_no hs) c1 sf.kind (fun y hy => (sf.all y hy).2.2) ?_
    refine hb z o ρ hz H z σ h k g d os _ (X ρ) (Zle.refl _) q S (hX.imp id fun hX σ => hX ρ σ) _ _ (fun z₂ σ₂ items val h₂ k₂ hz₂ S₂ rv q₂ => ?_) (hE.ex hz H)
    refine W cok z₂ _ σ₂ h₂ k₂ g d os ρ felt ft i₀ x px elt src ifs scope pos' cl items val _ (fun acc Cc => compPost (model C.prog C.w) A E' (some (assign (.Name y py) env)) (fun u_ s' => Q' .next s') acc Cc) E' (H.mono hz₂).seen sf c2 (I z₂ o (hz.trans hz₂)) S₂ rv q₂ ?_
    intro D Cc z' σ' acc oc od ws h' k' z1 f1 f2 ne S' o' l' r' q'
    obtain ⟨es, n, e1, e2⟩ := o'
    obtain ⟨el, nl, p1, p2⟩ := H.dat
    have LD : L ≠ D := fun e => by rw [e, Fz.set_self] at f1; cases f1
    have LC : L ≠ Cc := fun e => by rw [e, Fz.set_self] at f2; cases f2
    have atL : (((fr₀.set L o).set Cc oc).set D od) L = some o := by rw [Fz.set_ne _ _ LD, Fz.set_ne _ _ LC]; exact Fz.set_self ..
    refine wpAny_assign_Name (wpAny_storeName_local hk (by rw [B.loc]; exact fr_ns S' atL p1 p2) (fun h₃ hn₃ hs₃ => ?_) (by rw [B.kind]; rfl))
    rw [B.loc] at hn₃ hs₃
    obtain ⟨o₃, es₃, n₃, t1, t2, t3, t4⟩ := hn₃
    have S₃ := S'.setFr atL (fun x ob hx e => (hs₃.2 x hx).trans e) t1 (fun vs q => by rw [t2] at q; cases q)
    rw [Fz.set_comm _ _ _ (Ne.symm LD), Fz.set_comm _ _ _ (Ne.symm LC), Fz.set_set] at S₃
    refine ⟨_, fr_ns S₃ (by rw [Fz.set_ne _ _ ne]; exact Fz.set_self ..) e1 e2, fun h₄ hs₄ => ?_⟩
    obtain ⟨z'', z2, S₄, rv'⟩ := comp_done S₃ (by rw [Fz.set_ne _ _ (Ne.symm LD)]; rwa [Fz.set_ne _ _ (Ne.symm LD)] at f1) (by rw [Fz.set_ne _ _ (Ne.symm LC)]; rwa [Fz.set_ne _ _ (Ne.symm LC)] at f2) ne l' r' hs₄
    have zz := (hz₂.trans z1).trans z2
    exact hQ z'' o₃ _ σ' .next .next h₄ _ (hz.trans zz) zz.t (here_local B (H.mono zz) hv hk rv' q'.1 p1 t2 t3 t4) S₄ rfl q'.2
end
end Mine
end
section
namespace Mine
theorem and2 {a b : Bool} (h : (a && b) = true) : a = true ∧ b = true := Bool.and_eq_true_iff.mp h
theorem and3 {a b c : Bool} (h : (a && b && c) = true) : a = true ∧ b = true ∧ c = true := ⟨(and2 (and2 h).1).1, (and2 (and2 h).1).2, (and2 h).2⟩
theorem and4 {a b c d : Bool} (h : (a && b && c && d) = true) : a = true ∧ b = true ∧ c = true ∧ d = true := have g := and3 (and2 h).1; ⟨g.1, g.2.1, g.2.2, (and2 h).2⟩
theorem and5 {a b c d e : Bool} (h : (a && b && c && d && e) = true) : a = true ∧ b = true ∧ c = true ∧ d = true ∧ e = true := have g := and4 (and2 h).1; ⟨g.1, g.2.1, g.2.2.1, g.2.2.2, (and2 h).2⟩
theorem and6 {a b c d e f : Bool} (h : (a && b && c && d && e && f) = true) : a = true ∧ b = true ∧ c = true ∧ d = true ∧ e = true ∧ f = true := have g := and5 (and2 h).1; ⟨g.1, g.2.1, g.2.2.1, g.2.2.2.1, g.2.2.2.2, (and2 h).2⟩
theorem and7 {a b c d e f k : Bool} (h : (a && b && c && d && e && f && k) = true) : a = true ∧ b = true ∧ c = true ∧ d = true ∧ e = true ∧ f = true ∧ k = true := have g := and6 (and2 h).1; ⟨g.1, g.2.1, g.2.2.1, g.2.2.2.1, g.2.2.2.2.1, g.2.2.2.2.2, (and2 h).2⟩
theorem not_t {a : Bool} (h : (!a) = true) : a = false := by cases a <;> first | rfl | cases h
theorem bne_no {α : Type} [BEq α] {a b : α} (h : (a != b) = true) : (a == b) = false := not_t h
section
variable (C : Cx) (base : Heap) (A : Around) (l : List Env) (call : CallT)
noncomputable def SndE (e : E) : Prop := ∀ x env ns vis z fr ρ, RE ns vis e x = true → EnvOk env ns → CellsOk env ns → EnvR C z fr env ρ vis → AOk A l fr → Ref C base l z fr A (eval x env) (wE call e ρ) (VR C)
noncomputable def SndT (e : E) : Prop := ∀ x env ns vis z fr ρ, RE ns vis e x = true → EnvOk env ns → CellsOk env ns → EnvR C z fr env ρ vis → AOk A l fr → Ref C base l z fr A (isTrue x env (eval x env)) (wT call e ρ) (fun u_ b v => v = b)
noncomputable def SndO (o : Option E) : Prop := (∀ x env ns vis z fr ρ, RO ns vis o x = true → EnvOk env ns → CellsOk env ns → EnvR C z fr env ρ vis → AOk A l fr → RefO C base l z fr A x env (wO call o ρ)) ∧ ∀ e, o = some e → SndT C base A l call e
noncomputable def SndEs (es : List E) : Prop := ∀ xs env ns vis z fr ρ, REs ns vis es xs = true → EnvOk env ns → CellsOk env ns → EnvR C z fr env ρ vis → AOk A l fr → RefEs C base l z fr A xs env (wEs call es ρ)
end
section
variable {C : Cx} {base : Heap} {A : Around} {l : List Env} {call : CallT} {mg mb : Str → Option Value} {n : Nat}
theorem Ref.no {α β : Type} {z fr : Fz} {t : Sem α} {tr : Tr β} {rel : Fz → β → α → Prop} (h : ∀ σ Q X, ¬ tr σ Q X) : Ref C base l z fr A t tr rel := fun z₁ σ h' k g d os Q X hz q => (h _ _ _ q).elim
theorem AOk.up {fr fr' : Fz} (a : AOk A l fr) (u : FrUp fr fr') : AOk A l fr' := ⟨a.frames, fun e he => by
  obtain ⟨h1, L, h2, h3⟩ := a.there e he
  exact ⟨h1, L, h2, u L h3⟩⟩
theorem ref_truth {z fr : Fz} {env : Env} {x : PySem.Expr} {f : Tr V} (he : isTrue x env (eval x env) = (do let v ← eval x env; standAt x.pos; holding [v] (truthy v))) (ha : Ref C base l z fr A (eval x env) f (VR C)) :
    Ref C base l z fr A (isTrue x env (eval x env)) (cTruth f) (fun u_ b v => v = b) := by
  intro z₁ σ h k g d os Q X hz q S hX Q' E' hQ hE
  refine rwg he ?_
  refine wpC_bind (ha z₁ σ h k g d os _ X hz q S hX _ _ (fun z₂ σ₂ v val h₂ k₂ hz₂ S₂ rv q₂ => ?_) hE)
  obtain ⟨b, rfl, q₃⟩ := truthV_inv q₂
  have := rv.bool_inv; subst this
  exact wpC_bind (wpC_standAt (wpC_holding (wpC_of (wpAny_truthy_bool (hQ z₂ σ₂ b b h₂ k₂ hz₂ S₂ rfl q₃)))))
theorem snd_c (v : V) : SndE C base A l call (.c v) := fun x env ns vis z fr ρ h ok cok er a => by
  obtain ⟨p, rfl, k⟩ := any_at h
  exact ref_c k
theorem snd_x (i : Nat) : SndE C base A l call (.x i) := fun x env ns vis z fr ρ h ok cok er a => by
  obtain ⟨p, rfl, k⟩ := any_at h
  exact ref_x ok er (and2 k).1 (bne_no (and2 k).2)
theorem snd_g (F : Facts C base mg mb) (n : String) : SndE C base A l call (.g n) := fun x env ns vis z fr ρ h ok cok er a => by
  obtain ⟨p, rfl, k⟩ := any_at h
  have g := and4 k
  exact ref_g F ok g.1 (beq_iff_eq.mp g.2.1) g.2.2.1 (bne_no g.2.2.2)
theorem snd_bin (op : Operator) {a b : E} (ia : SndE C base A l call a) (ib : SndE C base A l call b) : SndE C base A l call (.bin op a b) := fun x env ns vis z fr ρ h ok cok er ao => by
  obtain ⟨p, rfl, k⟩ := any_at h
  have g := and3 k
  refine rwl (beq_iff_eq.mp g.1) ?_
  exact ref_bin (ia _ _ _ _ _ _ _ g.2.1 ok cok er ao) (ib _ _ _ _ _ _ _ g.2.2 ok cok er ao)
theorem snd_neg {a : E} (ia : SndE C base A l call a) : SndE C base A l call (.neg a) := fun x env ns vis z fr ρ h ok cok er ao => by
  obtain ⟨p, rfl, k⟩ := any_at h
  exact ref_neg (ia _ _ _ _ _ _ _ k ok cok er ao)
theorem snd_notT {a : E} (ia : SndT C base A l call a) : SndT C base A l call (.not a) := fun x env ns vis z fr ρ h ok cok er ao => by
  obtain ⟨p, rfl, k⟩ := any_at h
  exact ref_not (ia _ _ _ _ _ _ _ k ok cok er ao)
theorem snd_bopT (op : BoolOp) {a b : E} (ia : SndT C base A l call a) (ib : SndT C base A l call b) : SndT C base A l call (.bop op a b) := fun x env ns vis z fr ρ h ok cok er ao => by
  obtain ⟨p, rfl, k⟩ := any_at h
  obtain ⟨q, e, k⟩ := any_at k
  have g := and3 k
  refine rwl (beq_iff_eq.mp g.1) ?_
  refine rwg e ?_
  exact ref_bop (ia _ _ _ _ _ _ _ g.2.1 ok cok er ao) (ib _ _ _ _ _ _ _ g.2.2 ok cok er ao)
theorem cmp_inv {ns : Names} {vis : Vis} {op : CmpOp} {a b : E} {x : PySem.Expr} (h : RE ns vis (.cmp op a b) x = true) : ∃ l r pos, x = .Compare l [op] [r] pos ∧ RE ns vis a l = true ∧ RE ns vis b r = true ∧ behindInMarks op r = false := by
  obtain ⟨p, rfl, k⟩ := any_at h
  obtain ⟨o, e1, k⟩ := any_at k
  obtain ⟨r, e2, k⟩ := any_at k
  have g := and4 k
  exact ⟨_, r, _, by rw [e1, e2, beq_iff_eq.mp g.1], g.2.1, g.2.2.1, not_t g.2.2.2⟩
theorem snd_cmp (F : Facts C base mg mb) (hu : A.units + 64 < cLine) (op : CmpOp) {a b : E} (ia : SndE C base A l call a) (ib : SndE C base A l call b) : SndE C base A l call (.cmp op a b) ∧ SndT C base A l call (.cmp op a b) := by
  refine ⟨fun x env ns vis z fr ρ h ok cok er ao => ?_, fun x env ns vis z fr ρ h ok cok er ao => ?_⟩
  · obtain ⟨l, r, pos, rfl, k⟩ := cmp_inv h
    exact ref_cmp F.sys hu k.2.2 (ia _ _ _ _ _ _ _ k.1 ok cok er ao) (ib _ _ _ _ _ _ _ k.2.1 ok cok er ao)
  · obtain ⟨l, r, pos, rfl, k⟩ := cmp_inv h
    exact ref_cmpT F.sys hu k.2.2 (ia _ _ _ _ _ _ _ k.1 ok cok er ao) (ib _ _ _ _ _ _ _ k.2.1 ok cok er ao)
theorem cmp2_inv {ns : Names} {vis : Vis} {o1 o2 : CmpOp} {a b c : E} {x : PySem.Expr} (h : RE ns vis (.cmp2 o1 o2 a b c) x = true) :
    ∃ l r1 r2 pos, x = .Compare l [o1, o2] [r1, r2] pos ∧ RE ns vis a l = true ∧ RE ns vis b r1 = true ∧ RE ns vis c r2 = true ∧ lastMarks [o1, o2] [r1, r2] = false ∧ behindInMarks o2 r2 = false := by
  obtain ⟨p, rfl, k⟩ := any_at h
  obtain ⟨o, e1, k⟩ := any_at k
  obtain ⟨r, e2, k⟩ := any_at k
  have g := and7 k
  exact ⟨_, r.1, r.2, _, by rw [e1, e2, beq_iff_eq.mp g.1, beq_iff_eq.mp g.2.1], g.2.2.1, g.2.2.2.1, g.2.2.2.2.1, not_t g.2.2.2.2.2.1, not_t g.2.2.2.2.2.2⟩
theorem snd_cmp2 (F : Facts C base mg mb) (hu : A.units + 64 < cLine) (o1 o2 : CmpOp) {a b c : E} (ia : SndE C base A l call a) (ib : SndE C base A l call b) (ic : SndE C base A l call c) : SndE C base A l call (.cmp2 o1 o2 a b c) ∧ SndT C base A l call (.cmp2 o1 o2 a b c) := by
  refine ⟨fun x env ns vis z fr ρ h ok cok er ao => ?_, fun x env ns vis z fr ρ h ok cok er ao => ?_⟩
  · obtain ⟨l, r1, r2, pos, rfl, k⟩ := cmp2_inv h
    exact ref_cmp2 F.sys hu k.2.2.2.2 (ia _ _ _ _ _ _ _ k.1 ok cok er ao) (ib _ _ _ _ _ _ _ k.2.1 ok cok er ao) (ic _ _ _ _ _ _ _ k.2.2.1 ok cok er ao)
  · obtain ⟨l, r1, r2, pos, rfl, k⟩ := cmp2_inv h
    exact ref_cmp2T F.sys hu k.2.2.2.1 k.2.2.2.2 (ia _ _ _ _ _ _ _ k.1 ok cok er ao) (ib _ _ _ _ _ _ _ k.2.1 ok cok er ao) (ic _ _ _ _ _ _ _ k.2.2.1 ok cok er ao)
theorem snd_ite {t a b : E} (it : SndT C base A l call t) (ia : SndE C base A l call a) (ib : SndE C base A l call b) : SndE C base A l call (.ite t a b) := fun x env ns vis z fr ρ h ok cok er ao => by
  obtain ⟨p, rfl, k⟩ := any_at h
  have g := and3 k
  exact ref_ite (it _ _ _ _ _ _ _ g.1 ok cok er ao) (ia _ _ _ _ _ _ _ g.2.1 ok cok er ao) (ib _ _ _ _ _ _ _ g.2.2 ok cok er ao)
theorem snd_attr (F : Facts C base mg mb) {a : E} (n : String) (ia : SndE C base A l call a) : SndE C base A l call (.attr a n) := fun x env ns vis z fr ρ h ok cok er ao => by
  obtain ⟨p, rfl, k⟩ := any_at h
  have g := and4 k
  exact ref_attr F (beq_iff_eq.mp g.1) g.2.1 g.2.2.1 (ia _ _ _ _ _ _ _ g.2.2.2 ok cok er ao)
theorem snd_sub {a i : E} (ia : SndE C base A l call a) (ib : SndE C base A l call i) : SndE C base A l call (.sub a i) := fun x env ns vis z fr ρ h ok cok er ao => by
  obtain ⟨p, rfl, k⟩ := any_at h
  have g := and3 k
  exact ref_sub g.1 (ia _ _ _ _ _ _ _ g.2.1 ok cok er ao) (ib _ _ _ _ _ _ _ g.2.2 ok cok er ao)
theorem snd_slice {a : E} {lo hi : Option E} (ia : SndE C base A l call a) (il : SndO C base A l call lo) (ih : SndO C base A l call hi) : SndE C base A l call (.slice a lo hi) := fun x env ns vis z fr ρ h ok cok er ao => by
  obtain ⟨p, rfl, k⟩ := any_at h
  obtain ⟨q, e, k⟩ := any_at k
  have g := and3 k
  refine rwg e ?_
  exact ref_slice (ia _ _ _ _ _ _ _ g.1 ok cok er ao) (il.1 _ _ _ _ _ _ _ g.2.1 ok cok er ao) (ih.1 _ _ _ _ _ _ _ g.2.2 ok cok er ao)
theorem snd_tup {es : List E} (ie : SndEs C base A l call es) : SndE C base A l call (.tup es) := fun x env ns vis z fr ρ h ok cok er ao => by
  obtain ⟨p, rfl, k⟩ := any_at h
  exact ref_tup (ie _ _ _ _ _ _ _ k ok cok er ao)
theorem snd_list (live : Bool) {es : List E} (ie : SndEs C base A l call es) : SndE C base A l call (.list live es) := fun x env ns vis z fr ρ h ok cok er ao => by
  obtain ⟨p, rfl, k⟩ := any_at h
  exact ref_list (ie _ _ _ _ _ _ _ k ok cok er ao)
theorem snd_dict0 (F : Facts C base mg mb) : SndE C base A l call .dict0 := fun x env ns vis z fr ρ h ok cok er ao => by
  obtain ⟨p, rfl, k⟩ := any_at h
  exact ref_dict0 F.sys
theorem in_comp {elt : E} {cond : Option E} (ie : SndE C base A l call elt) (ic : ∀ e, cond = some e → SndT C base A l call e) {env : Env} {ns : Names} {vis : Vis} {z fr : Fz} {i : Nat} {x : Str} {sc : Scope} {elt' : PySem.Expr} {ifs : List PySem.Expr}
    (ao : AOk A l fr) (h1 : RE (innerNames ns sc) (innerVis ns vis i x sc) elt elt' = true) (h2 : condOk (fun t => RO (innerNames ns sc) (innerVis ns vis i x sc) cond (some t)) cond.isNone ifs = true) :
    InComp C base l z fr A env ns vis i x sc elt' ifs (wE call elt) (wC call cond) := by
  refine ⟨fun cl z' fr' ρ' Cc hz up ok cok er => ie _ _ _ _ _ _ _ h1 ok cok er (ao.up up), ?_⟩
  cases cond with
  | none =>
    refine .inl ⟨rfl, ?_⟩
    rcases Bool.or_eq_true_iff.mp h2 with h2 | h2
    · exact List.isEmpty_iff.mp (and2 h2).1
    · cases (and2 h2).1
  | some e =>
    rcases Bool.or_eq_true_iff.mp h2 with h2 | h2
    · cases (and2 h2).2
    · obtain ⟨t, rfl, h2⟩ := any_at (and2 h2).2
      exact .inr ⟨_, t, rfl, rfl, fun cl z' fr' ρ' Cc hz up ok cok er => ic e rfl _ _ _ _ _ _ _ h2 ok cok er (ao.up up)⟩
theorem compR_inv {ns : Names} {vis : Vis} {elt : E} {i : Nat} {args : List E} {cond : Option E} {x : PySem.Expr} (h : RE ns vis (.compR elt i args cond) x = true) :
    ∃ elt' y p r p' args' p2 ifs sc pos, x = .ListComp elt' [⟨.Name y p, .Call (.Name r p') args' [] p2, ifs, 0⟩] sc pos ∧ (r == "range") = true ∧ (ns.lookup r == some .globalImplicit) = true ∧ REs ns vis args args' = true ∧ scopeOk ns vis i y sc = true ∧
      RE (innerNames ns sc) (innerVis ns vis i y sc) elt elt' = true ∧ condOk (fun t => RO (innerNames ns sc) (innerVis ns vis i y sc) cond (some t)) cond.isNone ifs = true := by
  obtain ⟨p, rfl, k⟩ := any_at h
  obtain ⟨y, e1, k⟩ := any_at k
  obtain ⟨c, e2, k⟩ := any_at k
  obtain ⟨r, e3, k⟩ := any_at k
  exact ⟨_, _, y.2, _, r.2, _, c.2.2, _, _, p.2.2.2.2.2, by rw [e1, e2, e3], and6 k⟩
theorem snd_compR (F : Facts C base mg mb) (hh : HOk base A) {elt : E} (i : Nat) {args : List E} {cond : Option E} (ie : SndE C base A l call elt) (ia : SndEs C base A l call args) (ic : SndO C base A l call cond) : SndE C base A l call (.compR elt i args cond) :=
  fun x env ns vis z fr ρ h ok cok er ao => by
  obtain ⟨_, _, _, _, _, _, _, _, _, _, rfl, k⟩ := compR_inv h
  exact ref_comp (src_rng hh ok cok) ok cok er rfl (ref_range F ok k.1 k.2.1 (REs_plain k.2.2.1) (ia _ _ _ _ _ _ _ k.2.2.1 ok cok er ao)) (scope_facts k.2.2.2.1) (in_comp ie ic.2 ao k.2.2.2.2.1 k.2.2.2.2.2)
theorem compL_inv {ns : Names} {vis : Vis} {elt : E} {i : Nat} {src : E} {x : PySem.Expr} (h : RE ns vis (.compL elt i src) x = true) :
    ∃ elt' y p src' sc pos, x = .ListComp elt' [⟨.Name y p, src', [], 0⟩] sc pos ∧ notSet src' = true ∧ RE ns vis src src' = true ∧ scopeOk ns vis i y sc = true ∧ RE (innerNames ns sc) (innerVis ns vis i y sc) elt elt' = true := by
  obtain ⟨p, rfl, k⟩ := any_at h
  obtain ⟨y, e1, k⟩ := any_at k
  have g := and5 k
  exact ⟨_, _, y.2, _, _, p.2.2.2.2.2, by rw [e1, List.isEmpty_iff.mp g.2.1], g.1, g.2.2⟩
theorem snd_compL (hh : HOk base A) {elt : E} (i : Nat) {src : E} (ie : SndE C base A l call elt) (ia : SndE C base A l call src) : SndE C base A l call (.compL elt i src) :=
  fun x env ns vis z fr ρ h ok cok er ao => by
  obtain ⟨_, _, _, _, _, _, rfl, k⟩ := compL_inv h
  exact ref_comp (src_lst hh ok cok) ok cok er k.1 (ref_lst (ia _ _ _ _ _ _ _ k.2.1 ok cok er ao)) (scope_facts k.2.2.1) (in_comp (cond := none) (ifs := []) ie (fun u_ => nofun) ao k.2.2.2 rfl)
theorem snd_call (F : Facts C base mg mb) (co : CallOk C n call) (r : Room A (n + 1)) (hh : HOk base A) {f : E} {args : List E} (ie : SndE C base A l call f) (ia : SndEs C base A l call args) : SndE C base A l call (.call f args) ∧ SndT C base A l call (.call f args) := by
  have main : SndE C base A l call (.call f args) := fun x env ns vis z fr ρ h ok cok er ao => by
    obtain ⟨p, rfl, k⟩ := any_at h
    have g := and3 k
    exact ref_call g.1 (REs_plain g.2.2) (callee_app F co ao r hh fun b z₁ u_ => callee_b F hh b) (ie _ _ _ _ _ _ _ g.2.1 ok cok er ao) (ia _ _ _ _ _ _ _ g.2.2 ok cok er ao)
  refine ⟨main, fun x env ns vis z fr ρ h ok cok er ao => ?_⟩
  have m := main x env ns vis z fr ρ h ok cok er ao
  obtain ⟨p, rfl, _⟩ := any_at h
  exact ref_truth rfl m
theorem snd_meth (F : Facts C base mg mb) (co : CallOk C n call) (r : Room A (n + 1)) (hh : HOk base A) {o : E} (nm : String) {args : List E} (ie : SndE C base A l call o) (ia : SndEs C base A l call args) : SndE C base A l call (.meth o nm args) ∧ SndT C base A l call (.meth o nm args) := by
  have main : SndE C base A l call (.meth o nm args) := fun x env ns vis z fr ρ h ok cok er ao => by
    obtain ⟨p, rfl, k⟩ := any_at h
    obtain ⟨q, e, k⟩ := any_at k
    have g := and6 k
    refine rwg e ?_
    exact ref_meth F co ao r hh (beq_iff_eq.mp g.1) g.2.1 g.2.2.1 (Nat.le_of_ble_eq_true g.2.2.2.2.2) (fun pos => REs_plain g.2.2.2.2.1) (ie _ _ _ _ _ _ _ g.2.2.2.1 ok cok er ao) (ia _ _ _ _ _ _ _ g.2.2.2.2.1 ok cok er ao)
  refine ⟨main, fun x env ns vis z fr ρ h ok cok er ao => ?_⟩
  have m := main x env ns vis z fr ρ h ok cok er ao
  obtain ⟨p, rfl, _⟩ := any_at h
  exact ref_truth rfl m
theorem es_nil : SndEs C base A l call [] := fun xs env ns vis z fr ρ h ok cok er ao => by
  cases xs with
  | nil => exact ref_nil
  | cons x xs => exact (Bool.false_ne_true h).elim
theorem es_cons {e : E} {es : List E} (ie : SndE C base A l call e) (ies : SndEs C base A l call es) : SndEs C base A l call (e :: es) := fun xs env ns vis z fr ρ h ok cok er ao => by
  cases xs with
  | nil => exact (Bool.false_ne_true h).elim
  | cons x xs =>
    obtain ⟨h, h3⟩ := and2 h
    obtain ⟨h1, h2⟩ := and2 h
    exact ref_cons h1 (ie _ _ _ _ _ _ _ h2 ok cok er ao) (ies _ _ _ _ _ _ _ h3 ok cok er ao)
theorem snd_E (F : Facts C base mg mb) (co : CallOk C n call) (r : Room A (n + 1)) (hh : HOk base A) (e : E) : SndE C base A l call e ∧ SndT C base A l call e := by
  have hu : A.units + 64 < cLine := by have := r.2; lia
  have noT : ∀ e, (∀ ρ, wT call e ρ = fun u_ u_ u_ => False) → SndT C base A l call e := fun e h x env ns vis z fr ρ u_ u_ u_ u_ u_ => by rw [h]; exact Ref.no fun u_ u_ u_ x => x
  refine E.rec (motive_1 := fun e => SndE C base A l call e ∧ SndT C base A l call e) (motive_2 := SndO C base A l call) (motive_3 := SndEs C base A l call) ?_ ?_ ?_ ?_ ?_ ?_ ?_ ?_ ?_ ?_ ?_ ?_ ?_ ?_ ?_ ?_ ?_ ?_ ?_ ?_ ?_ ?_ ?_ ?_ e
  · exact fun v => ⟨snd_c v, noT _ fun u_ => rfl⟩
  · exact fun i => ⟨snd_x i, noT _ fun u_ => rfl⟩
  · exact fun n => ⟨snd_g F n, noT _ fun u_ => rfl⟩
  · exact fun op a b ia ib => ⟨snd_bin op ia.1 ib.1, noT _ fun u_ => rfl⟩
  · exact fun a ia => ⟨snd_neg ia.1, noT _ fun u_ => rfl⟩
  · exact fun a ia => ⟨fun u_ u_ u_ u_ u_ u_ u_ u_ u_ u_ u_ u_ => Ref.no fun u_ u_ u_ x => x, snd_notT ia.2⟩
  · exact fun op a b ia ib => ⟨fun u_ u_ u_ u_ u_ u_ u_ u_ u_ u_ u_ u_ => Ref.no fun u_ u_ u_ x => x, snd_bopT op ia.2 ib.2⟩
  · exact fun op a b ia ib => snd_cmp F hu op ia.1 ib.1
  · exact fun o1 o2 a b c ia ib ic => snd_cmp2 F hu o1 o2 ia.1 ib.1 ic.1
  · exact fun t a b it ia ib => ⟨snd_ite it.2 ia.1 ib.1, noT _ fun u_ => rfl⟩
  · exact fun a n ia => ⟨snd_attr F n ia.1, noT _ fun u_ => rfl⟩
  · exact fun a i ia ib => ⟨snd_sub ia.1 ib.1, noT _ fun u_ => rfl⟩
  · exact fun a lo hi ia il ih => ⟨snd_slice ia.1 il ih, noT _ fun u_ => rfl⟩
  · exact fun es ie => ⟨snd_tup ie, noT _ fun u_ => rfl⟩
  · exact fun live es ie => ⟨snd_list live ie, noT _ fun u_ => rfl⟩
  · exact ⟨snd_dict0 F, noT _ fun u_ => rfl⟩
  · exact fun elt i args cond ie ia ic => ⟨snd_compR F hh i ie.1 ia ic, noT _ fun u_ => rfl⟩
  · exact fun elt i src ie ia => ⟨snd_compL hh i ie.1 ia.1, noT _ fun u_ => rfl⟩
  · exact fun f args ie ia => snd_call F co r hh ie.1 ia
  · exact fun o n args ie ia => snd_meth F co r hh n ie.1 ia
  · refine ⟨fun x env ns vis z fr ρ h ok cok er ao => ?_, fun u_ => nofun⟩
    cases x with
    | none => exact ref_none
    | some x => exact (Bool.false_ne_true h).elim
  · refine fun e ie => ⟨fun x env ns vis z fr ρ h ok cok er ao => ?_, fun e' he => by cases he; exact ie.2⟩
    cases x with
    | none => exact (Bool.false_ne_true h).elim
    | some x => exact ref_some (ie.1 _ _ _ _ _ _ _ h ok cok er ao)
  · exact es_nil
  · exact fun e es ie ies => es_cons ie.1 ies
end
end Mine
end
section
namespace Mine
structure Run (C : Cx) (initA : Addr) (n : Nat) (call : CallT) (base : Heap) (mg mb : Str → Option Value) (A : Around) (l : List Env) (fr₀ : Fz) (env : Env) (L : Addr) (ns : Names) (vis : Vis) : Prop where
  F : Facts C base mg mb
  XF : XFacts C initA mg
  co : CallOk C n call
  B : BlockOk env L ns vis
  hf : env.frame = some L
  a : ∀ o, AOk A (env :: l) (fr₀.set L o)
  r : Room A (n + 1)
  hh : HOk base A
noncomputable def SndS (C : Cx) (initA : Addr) (n : Nat) (call : CallT) (s : S) : Prop := ∀ x base mg mb A l z₀ fr₀ env L ns vis, RS ns vis s x = true → Run C initA n call base mg mb A l fr₀ env L ns vis → RefS C base (env :: l) z₀ fr₀ A env L vis (exec x env) (wS call s)
noncomputable def SndSs (C : Cx) (initA : Addr) (n : Nat) (call : CallT) (s : List S) : Prop := ∀ xs base mg mb A l z₀ fr₀ env L ns vis, RSs ns vis s xs = true → Run C initA n call base mg mb A l fr₀ env L ns vis → RefS C base (env :: l) z₀ fr₀ A env L vis (execs xs env) (wSs call s)
section
variable {C : Cx} {initA : Addr} {n : Nat} {call : CallT} {base : Heap} {mg mb : Str → Option Value} {A : Around} {l : List Env} {z₀ fr₀ : Fz} {env : Env} {L : Addr} {ns : Names} {vis : Vis}
theorem here_cells (B : BlockOk env L ns vis) {z : Fz} {ρ : Loc} {o : Obj} (H : Here C z₀ z fr₀ env L ρ vis o) : CellsOk env ns := fun y hy => by
  refine foldg fun G0 fin0 => ?_
  obtain ⟨c, v, oc, h1, _⟩ := H.cell y (by unfold Env.kindOf; rw [B.names]; exact hy)
  refine fin0 ?_
  exact ⟨c, h1⟩
theorem Run.e (R : Run C initA n call base mg mb A l fr₀ env L ns vis) {e : E} {x : PySem.Expr} (h : RE ns vis e x = true) : RefX C base (env :: l) z₀ fr₀ A env L vis (eval x env) (wE call e) (VR C) :=
  fun z o ρ hz H => (snd_E R.F R.co R.r R.hh e).1 x env ns vis z _ ρ h R.B.toEnvOk (here_cells R.B H) H.seen (R.a o)
theorem Run.t (R : Run C initA n call base mg mb A l fr₀ env L ns vis) {e : E} {x : PySem.Expr} (h : RE ns vis e x = true) : RefX C base (env :: l) z₀ fr₀ A env L vis (isTrue x env (eval x env)) (wT call e) (fun u_ b v => v = b) :=
  fun z o ρ hz H => (snd_E R.F R.co R.r R.hh e).2 x env ns vis z _ ρ h R.B.toEnvOk (here_cells R.B H) H.seen (R.a o)
theorem es_of (F : Facts C base mg mb) (co : CallOk C n call) (r : Room A (n + 1)) (hh : HOk base A) : ∀ es : List E, SndEs C base A l call es
  | [] => es_nil
  | e :: es => es_cons (snd_E F co r hh e).1 (es_of F co r hh es)
theorem Run.target (R : Run C initA n call base mg mb A l fr₀ env L ns vis) : ∀ {t : T} {x : PySem.Expr}, RT ns vis t x = true → RefT C base (env :: l) z₀ fr₀ A env L vis (assign x env) (wTgt call t)
  | .x i, x, h => by
    refine foldg fun G0 fin0 => ?_
    obtain ⟨p, rfl, k⟩ := any_at (o := asName x) h
    refine fin0 ?_
    exact tgt_x R.B (vis_mem k)
  | .tup is, x, h => by
    refine foldg fun G0 fin0 => ?_
    obtain ⟨p, rfl, k⟩ := any_at (o := asTuple x) h
    refine fin0 ?_
    exact tgt_tup R.hh R.B (namesAre_of (beq_iff_eq.mp (and2 k).1) (and2 k).2) (beq_iff_eq.mp (and2 k).1)
  | .attr o nm, x, h => by
    refine foldg fun G0 fin0 => ?_
    obtain ⟨p, rfl, k⟩ := any_at (o := asAttr x) h
    refine fin0 ?_
    exact tgt_attr R.F (beq_iff_eq.mp (and3 k).1) (and3 k).2.1 (R.e (and3 k).2.2)
  | .sub a i, x, h => by
    refine foldg fun G0 fin0 => ?_
    obtain ⟨p, rfl, k⟩ := any_at (o := asSub x) h
    refine fin0 ?_
    exact tgt_sub (and3 k).1 (R.e (and3 k).2.1) (R.e (and3 k).2.2)
  | .slice a lo hi, x, h => by
    refine foldg fun G0 fin0 => ?_
    obtain ⟨p, rfl, k⟩ := any_at (o := asSub x) h
    obtain ⟨q, e, k⟩ := any_at k
    have g := and3 k
    obtain ⟨l, e1, g1⟩ := any_some g.2.1
    obtain ⟨u, e2, g2⟩ := any_some g.2.2
    refine fin0 ?_
    refine rwg e ?_
    refine rwg e1 ?_
    refine rwg e2 ?_
    exact tgt_slice (R.e g.1) (R.e g1) (R.e g2)
theorem swap_not_name {y t : PySem.Expr} {ln : Nat} (ht : t.ctorIdx ≠ 23) : swapsWith y (some t) ln env = pure false := by
  cases y <;> first | rfl | (cases t <;> first | rfl | exact absurd rfl ht)
theorem re_comp {e : E} {x : PySem.Expr} (h : RE ns vis e x = true) (hc : notComp x = false) : (∃ a b c d, e = .compR a b c d) ∨ ∃ a b c, e = .compL a b c := by
  have no : ∀ {y : PySem.Expr}, x = y → notComp y = true → False := fun e k => by rw [e, k] at hc; cases hc
  cases e with
  | compR a b c d => exact .inl ⟨a, b, c, d, rfl⟩
  | compL a b c => exact .inr ⟨a, b, c, rfl⟩
  | _ => exact (any_at h).elim fun p k => (no k.1 rfl).elim
theorem comp_asg (R : Run C initA n call base mg mb A l fr₀ env L ns vis) {i : Nat} {y : Str} {py pos : Pos} (hv : (i, y) ∈ vis) {e : E} {x : PySem.Expr} (h : RE ns vis e x = true) (hc : notComp x = false) :
    RefS C base (env :: l) z₀ fr₀ A env L vis (exec (.Assign [.Name y py] x pos) env) (cAsg (wE call e) (wTgt call (.x i))) := by
  have ic := fun {elt : E} {cond : Option E} {i₀ : Nat} {x : Str} {sc : Scope} {elt' : PySem.Expr} {ifs : List PySem.Expr} (z : Fz) (o : Obj) (g5 : RE (innerNames ns sc) (innerVis ns vis i₀ x sc) elt elt' = true) g6 =>
    in_comp (C := C) (base := base) (A := A) (l := env :: l) (call := call) (cond := cond) (env := env) (z := z) (ifs := ifs) (snd_E R.F R.co R.r R.hh elt).1 (fun e u_ => (snd_E R.F R.co R.r R.hh e).2) (R.a o) g5 g6
  rcases re_comp h hc with ⟨elt, i₀, args, cond, rfl⟩ | ⟨elt, i₀, src, rfl⟩
  · refine foldg fun G0 fin0 => ?_
    obtain ⟨_, _, _, _, _, _, _, _, _, _, rfl, g1, g2, g3, g4, g5, g6⟩ := compR_inv h
    refine fin0 ?_
    exact s_asg_comp R.B (fun cok => src_rng R.hh R.B.toEnvOk cok) rfl hv
      (fun z o ρ hz H => ref_range R.F R.B.toEnvOk g1 g2 (REs_plain g3) (es_of R.F R.co R.r R.hh args _ _ _ _ _ _ _ g3 R.B.toEnvOk (here_cells R.B H) H.seen (R.a o))) (scope_facts g4) (fun z o u_ => ic z o g5 g6)
  · refine foldg fun G0 fin0 => ?_
    obtain ⟨_, _, _, _, _, _, rfl, g0, g3, g4, g5⟩ := compL_inv h
    refine fin0 ?_
    exact s_asg_comp R.B (fun cok => src_lst R.hh R.B.toEnvOk cok) g0 hv (fun z o ρ hz H => ref_lst (R.e g3 z o ρ hz H)) (scope_facts g4) (fun z o u_ => ic (cond := none) z o g5 rfl)
theorem plain_target {t : T} {x : PySem.Expr} (h : RT ns vis t x = true) (ht : t.isTup = false) : x.ctorIdx = 20 ∨ x.ctorIdx = 21 ∨ x.ctorIdx = 23 := by
  cases t with
  | tup => cases ht
  | x => obtain ⟨p, rfl, _⟩ := any_at (o := asName x) h; exact .inr (.inr rfl)
  | attr => obtain ⟨p, rfl, _⟩ := any_at (o := asAttr x) h; exact .inl rfl
  | _ => obtain ⟨p, rfl, _⟩ := any_at (o := asSub x) h; exact .inr (.inl rfl)
theorem ctor_ne {x : PySem.Expr} (h : x.ctorIdx = 20 ∨ x.ctorIdx = 21 ∨ x.ctorIdx = 23) : (∀ xs u pos, x ≠ .Tuple xs u pos) ∧ (∀ xs pos, x ≠ .List xs pos) ∧ ∀ e pos, x ≠ .Starred e pos := by
  refine ⟨fun u_ u_ u_ e => ?_, fun u_ u_ e => ?_, fun u_ u_ e => ?_⟩ <;> (subst e; rcases h with h | h | h <;> cases h)
theorem snd_asg (t : T) (e : E) : SndS C initA n call (.asg t e) := by
  intro x base mg mb A l z₀ fr₀ env L ns vis h R
  obtain ⟨p, rfl, k⟩ := any_at h
  have g := and3 k
  have ht := R.target (z₀ := z₀) g.1
  clear h k
  cases q : t.isTup with
  | true =>
    cases t with
    | tup is =>
      obtain ⟨u, e, k⟩ := any_at (o := asTuple p.1) g.1
      refine rwg e ?_
      exact s_asg (swap_not_name (show ¬ 25 = 23 by decide)) (R.e g.2.1) (asg_tup R.hh R.B g.2.2 (namesAre_of (beq_iff_eq.mp (and2 k).1) (and2 k).2) (beq_iff_eq.mp (and2 k).1))
    | _ => cases q
  | false =>
    have pt := plain_target g.1 q
    have ne := ctor_ne pt
    have pl := asg_plain (y := p.2.1) ne.1 ne.2.1 ne.2.2 ht
    by_cases c : p.1.ctorIdx = 23
    · cases hc : notComp p.2.1 with
      | true => exact s_asg (no_swap hc) (R.e g.2.1) pl
      | false =>
        cases t with
        | x i => obtain ⟨u, e, k⟩ := any_at (o := asName p.1) g.1; rw [e]; exact comp_asg R (vis_mem k) g.2.1 hc
        | tup => cases q
        | attr => obtain ⟨u, e, _⟩ := any_at (o := asAttr p.1) g.1; rw [e] at c; cases c
        | _ => obtain ⟨u, e, _⟩ := any_at (o := asSub p.1) g.1; rw [e] at c; cases c
    · exact s_asg (swap_not_name c) (R.e g.2.1) pl
theorem RefS.no {t : Sem Flow} {tr : TrS} {l : List Env} (h : ∀ ρ σ Q X, ¬ tr ρ σ Q X) : RefS C base l z₀ fr₀ A env L vis t tr := fun z o ρ σ h' k g d os Q X hz H q => (h _ _ _ _ q).elim
theorem snd_for {t : T} {it : It} {body : List S} (ib : SndSs C initA n call body) : SndS C initA n call (.for_ t it body) := by
  intro x base mg mb A l z₀ fr₀ env L ns vis h R
  obtain ⟨p, rfl, k⟩ := any_at h
  have g := and4 k
  have hA : A.frames = some (env :: l) := (R.a emptyDict).frames
  have hb : ∀ z₀, RefS C base (env :: l) z₀ fr₀ A env L vis (execs p.2.2.1 env) (wSs call body) := fun z₀ => ib _ _ _ _ _ _ _ _ _ _ _ _ g.2.2.1 R
  have ht : ∀ z₀, RefT C base (env :: l) z₀ fr₀ A env L vis (assign p.1 env) (wTgt call t) := fun z₀ => R.target g.1
  show RefS _ _ _ _ _ _ _ _ _ _ (cFor (wIt call it) (wTgt call t) (wSs call body))
  clear h k
  cases it with
  | e a => exact s_for hA R.hf R.hh (and2 g.2.1).1 (R.e (and2 g.2.1).2) ht hb
  | rng args =>
    obtain ⟨c, e1, k⟩ := any_at (o := asCall p.2.1) g.2.1
    obtain ⟨r, e2, k⟩ := any_at k
    refine rwg e1 ?_
    refine rwg e2 ?_
    exact s_for_rng R.F R.B hA R.hf R.hh (and3 k).1 (and3 k).2.1 (REs_plain (and3 k).2.2) (fun z o ρ hz H => es_of R.F R.co R.r R.hh _ _ _ _ _ _ _ _ (and3 k).2.2 R.B.toEnvOk (here_cells R.B H) H.seen (R.a o)) ht hb
  | enum a =>
    obtain ⟨c, e1, k⟩ := any_at (o := asCall p.2.1) g.2.1
    obtain ⟨r, e2, k⟩ := any_at k
    obtain ⟨y, e3, k⟩ := any_at k
    have f := and4 k
    cases t with
    | tup is =>
      obtain ⟨u, e, _⟩ := any_at (o := asTuple p.1) g.1
      rw [e] at ht ⊢
      refine rwg e1 ?_
      refine rwg e2 ?_
      refine rwg e3 ?_
      exact s_for_enum R.F R.B hA R.hf R.hh f.1 f.2.1 f.2.2.1 (R.e f.2.2.2) ht hb
    | _ => cases g.2.2.2
theorem snd_try {body hd : List S} (ib : SndSs C initA n call body) (ih : SndSs C initA n call hd) : SndS C initA n call (.try_ body hd) := by
  intro x base mg mb A l z₀ fr₀ env L ns vis h R
  obtain ⟨p, rfl, k⟩ := any_at (o := asTry x) h
  obtain ⟨y, e, k⟩ := any_at k
  have g := and4 k
  refine rwg e ?_
  exact s_try R.F R.XF R.B (R.a emptyDict).frames R.hf g.2.1 g.2.2.1 (ib _ _ _ _ _ _ _ _ _ _ _ _ g.1 R) fun base' a F' hh' =>
    ih _ _ _ _ _ _ _ _ _ _ _ _ g.2.2.2 ⟨F', R.XF, R.co, R.B, R.hf, fun o => ⟨(R.a o).frames, (R.a o).there⟩, R.r, hh'⟩
theorem snd_raise (m : String) : SndS C initA n call (.raise_ m) := by
  intro x base mg mb A l z₀ fr₀ env L ns vis h R z o ρ σ h' k g d os Q X hz H q S hX Q' E' hQ hE
  refine foldg fun G0 fin0 => ?_
  obtain ⟨rfl, q⟩ := q
  obtain ⟨p, rfl, k⟩ := any_at (o := asRaise x) h
  obtain ⟨c, e1, k⟩ := any_at k
  obtain ⟨y, e2, k⟩ := any_at k
  obtain ⟨a, e3, k⟩ := any_at k
  obtain ⟨v, e4, k⟩ := any_at k
  obtain ⟨s, e5, k⟩ := any_at k
  refine fin0 ?_
  refine rwg e1 ?_
  refine rwg e2 ?_
  refine rwg e3 ?_
  refine rwg e4 ?_
  refine rwg e5 ?_
  exact s_raise R.F R.XF R.B R.a ⟨by have := R.r.1; lia, by have := R.r.2; lia⟩ (and2 k).1 (and2 k).2 z o ρ σ h' _ _ d os Q X hz H q S hX Q' E' hQ hE
theorem snd_ss_nil : SndSs C initA n call [] := fun xs base mg mb A l z₀ fr₀ env L ns vis h R => by
  cases xs with
  | nil => exact s_nil
  | cons x xs => exact (Bool.false_ne_true h).elim
theorem snd_ss_cons {s : S} {r : List S} (is : SndS C initA n call s) (ir : SndSs C initA n call r) : SndSs C initA n call (s :: r) := fun xs base mg mb A l z₀ fr₀ env L ns vis h R => by
  cases xs with
  | nil => exact (Bool.false_ne_true h).elim
  | cons x xs =>
    obtain ⟨h1, h2⟩ := and2 h
    exact s_cons (is _ _ _ _ _ _ _ _ _ _ _ _ h1 R) (ir _ _ _ _ _ _ _ _ _ _ _ _ h2 R)
theorem snd_expr (e : E) : SndS C initA n call (.expr e) := fun x base mg mb A l z₀ fr₀ env L ns vis h R => by
  obtain ⟨p, rfl, k⟩ := any_at (o := asExprS x) h
  exact s_expr R.B (and2 k).1 (R.e (and2 k).2)
theorem snd_aug (i : Nat) (op : Operator) (e : E) : SndS C initA n call (.aug i op e) := fun x base mg mb A l z₀ fr₀ env L ns vis h R => by
  by_cases ho : op = .Add
  · subst ho
    obtain ⟨p, rfl, k⟩ := any_at (o := asAug x) h
    obtain ⟨y, e1, k⟩ := any_at k
    refine rwg e1 ?_
    refine rwl (beq_iff_eq.mp (and3 k).1) ?_
    exact s_aug R.B (vis_mem (and3 k).2.1) (R.e (and3 k).2.2)
  · cases op <;> first | exact absurd rfl ho | exact RefS.no fun u_ u_ u_ u_ x => x
theorem snd_augA (o : E) (nm : String) (op : Operator) (e : E) : SndS C initA n call (.augA o nm op e) := fun x base mg mb A l z₀ fr₀ env L ns vis h R => by
  by_cases ho : op = .Add
  · subst ho
    obtain ⟨p, rfl, k⟩ := any_at (o := asAug x) h
    obtain ⟨y, e1, k⟩ := any_at k
    have g := and5 k
    refine rwg e1 ?_
    refine rwl (beq_iff_eq.mp g.1) ?_
    exact s_augA R.F (beq_iff_eq.mp g.2.1) g.2.2.1 (R.e g.2.2.2.1) (R.e g.2.2.2.2)
  · cases op <;> first | exact absurd rfl ho | exact RefS.no fun u_ u_ u_ u_ x => x
theorem snd_if {t : E} {a b : List S} (ia : SndSs C initA n call a) (ib : SndSs C initA n call b) : SndS C initA n call (.ifs t a b) := fun x base mg mb A l z₀ fr₀ env L ns vis h R => by
  obtain ⟨p, rfl, k⟩ := any_at (o := asIfS x) h
  exact s_if (R.t (and3 k).1) (ia _ _ _ _ _ _ _ _ _ _ _ _ (and3 k).2.1 R) (ib _ _ _ _ _ _ _ _ _ _ _ _ (and3 k).2.2 R)
theorem snd_ret : ∀ e : Option E, SndS C initA n call (.ret e)
  | none => fun x base mg mb A l z₀ fr₀ env L ns vis h R => by
    obtain ⟨p, rfl, k⟩ := any_at (o := asRet x) h
    refine rwg (Option.isNone_iff_eq_none.mp k) ?_
    exact s_ret0
  | some e => fun x base mg mb A l z₀ fr₀ env L ns vis h R => by
    obtain ⟨p, rfl, k⟩ := any_at (o := asRet x) h
    obtain ⟨y, e1, k⟩ := any_some k
    refine rwg e1 ?_
    exact s_ret (R.e k)
theorem snd_delSub (a i : E) : SndS C initA n call (.delSub a i) := fun x base mg mb A l z₀ fr₀ env L ns vis h R => by
  obtain ⟨p, rfl, k⟩ := any_at (o := asDel x) h
  obtain ⟨q, e, k⟩ := any_at k
  refine rwg e ?_
  exact s_delSub (and3 k).1 (R.e (and3 k).2.1) (R.e (and3 k).2.2)
theorem snd_delSlice (a i : E) : SndS C initA n call (.delSlice a i) := fun x base mg mb A l z₀ fr₀ env L ns vis h R => by
  refine foldg fun G0 fin0 => ?_
  obtain ⟨p, rfl, k⟩ := any_at (o := asDel x) h
  obtain ⟨q, e, k⟩ := any_at k
  obtain ⟨u, e1, k⟩ := any_at k
  have g := and3 k
  obtain ⟨w, e2, k⟩ := any_some g.2.2
  refine fin0 ?_
  refine rwg e ?_
  refine rwg e1 ?_
  refine rwg e2 ?_
  refine rwg (Option.isNone_iff_eq_none.mp g.1) ?_
  exact s_delSlice (R.e g.2.1) (R.e k)
theorem snd_cont : SndS C initA n call .cont := fun x base mg mb A l z₀ fr₀ env L ns vis h R => by
  obtain ⟨p, rfl, k⟩ := any_at (o := asCont x) h
  exact s_cont
theorem snd_S (s : S) : SndS C initA n call s :=
  S.rec (motive_1 := SndS C initA n call) (motive_2 := SndSs C initA n call) snd_expr snd_asg snd_aug snd_augA (fun t a b ia ib => snd_if ia ib) (fun t it body ib => snd_for ib) snd_ret snd_raise (fun b h ib ih => snd_try ib ih) snd_delSub snd_delSlice snd_cont
    snd_ss_nil (fun s r is ir => snd_ss_cons is ir) s
theorem snd_Ss : ∀ s : List S, SndSs C initA n call s
  | [] => snd_ss_nil
  | s :: r => snd_ss_cons (snd_S s) (snd_Ss r)
end
end Mine
end
section
namespace Mine
section
variable {α : Type}
theorem lookup_zip (names : List Str) : ∀ (w : List α), names.Nodup → ∀ (i : Nat) (hi : i < names.length), (names.zip w).lookup names[i] = w[i]? := by
  induction names with
  | nil => exact fun u_ u_ i hi => absurd hi (Nat.not_lt_zero _)
  | cons n names ih =>
    intro w hn i hi
    cases w with
    | nil => simp
    | cons v w =>
      cases i with
      | zero => simp
      | succ i =>
        rw [List.nodup_cons] at hn
        have hi' : i < names.length := Nat.lt_of_succ_lt_succ hi
        have ne : (names[i] == n) = false := beq_eq_false_iff_ne.mpr fun e => hn.1 (e ▸ List.getElem_mem hi')
        rw [List.zip_cons_cons, List.getElem_cons_succ, List.lookup_cons, ne, List.getElem?_cons_succ]
        exact ih w hn.2 i hi'
theorem bind_all (S : List (Str × α)) (names : List Str) : ∀ (w : List α), names.length = w.length → (∀ (i : Nat) (hi : i < names.length), S.lookup names[i] = w[i]?) → names.filterMap (fun n => (S.lookup n).map (n, ·)) = names.zip w := by
  induction names with
  | nil => exact fun u_ u_ u_ => rfl
  | cons n names ih =>
    intro w hl h
    cases w with
    | nil => cases hl
    | cons v w =>
      have h0 : S.lookup n = some v := h 0 (Nat.succ_pos _)
      rw [List.filterMap_cons, h0]
      exact congrArg ((n, v) :: ·) (ih w (Nat.succ.inj hl) fun i hi => h (i + 1) (Nat.succ_lt_succ hi))
theorem bind_loop {names : List Str} (hn : names.Nodup) {f : Str × α → List (Str × α) → Sem (ForInStep (List (Str × α)))} (hf : ∀ n d r, f (n, d) r = if (r.lookup n).isNone = true then pure (ForInStep.yield (r ++ [(n, d)])) else pure (ForInStep.yield r)) :
    ∀ (ds : List α) (p : Nat) (w : List α), p + ds.length = names.length → p ≤ w.length → w.length ≤ names.length → forIn ((names.drop p).zip ds) (names.zip w) f = pure (names.zip (w ++ ds.drop (w.length - p)))
  | [], p, w, h1, h2, h3 => by simp
  | d :: ds, p, w, h1, h2, h3 => by
    have hp : p < names.length := h1 ▸ Nat.lt_add_of_pos_right (Nat.succ_pos _)
    rw [List.drop_eq_getElem_cons hp, List.zip_cons_cons, List.forIn_cons, hf, lookup_zip names w hn p hp]
    by_cases q : p < w.length
    · rw [List.getElem?_eq_getElem q]
      simp only [Option.isNone_some, Bool.false_eq_true, if_false, pure_bind]
      rw [bind_loop hn hf ds (p + 1) w (by rw [← h1, List.length_cons, Nat.add_assoc, Nat.add_comm 1]) q h3, show w.length - p = w.length - (p + 1) + 1 by rw [← Nat.sub_sub]; exact (Nat.sub_add_cancel (Nat.sub_pos_of_lt q)).symm, List.drop_succ_cons]
    · rw [List.getElem?_eq_none (Nat.le_of_not_lt q)]
      simp only [Option.isNone_none, if_true, pure_bind]
      have e : names.zip w ++ [(names[p], d)] = names.zip (w ++ [d]) := by
        have ep : w.length = p := Nat.le_antisymm (Nat.le_of_not_lt q) h2
        have key : ∀ (ns : List Str) (w : List α) (hw : w.length < ns.length), ns.zip w ++ [(ns[w.length], d)] = ns.zip (w ++ [d]) := fun ns => by
          induction ns with
          | nil => intro w hw; exact absurd hw (Nat.not_lt_zero _)
          | cons x ns ih =>
            intro w hw
            cases w with
            | nil => simp
            | cons v w => simpa using ih w (by simpa using hw)
        subst ep
        exact key names w hp
      rw [e, bind_loop hn hf ds (p + 1) (w ++ [d]) (by rw [← h1, List.length_cons, Nat.add_assoc, Nat.add_comm 1]) (by rw [List.length_append]; exact Nat.succ_le_succ h2) (by rw [List.length_append]; exact Nat.lt_of_le_of_lt (Nat.le_of_not_lt q) hp)]
      simp [Nat.sub_eq_zero_of_le (Nat.le_of_not_lt q), Nat.sub_eq_zero_of_le (Nat.succ_le_succ (Nat.le_of_not_lt q))]
end
theorem full_sub {v d n : Nat} (h1 : v ≤ n) (h2 : n ≤ v + d) (h3 : d ≤ n) : v + (d - (v - (n - d))) = n ∧ v - (n - d) = d - (n - v) := by
  obtain ⟨k, rfl⟩ := Nat.exists_eq_add_of_le h3
  obtain ⟨j, rfl⟩ := Nat.exists_eq_add_of_le (show k ≤ v from Nat.le_of_add_le_add_left (Nat.add_comm v d ▸ h2))
  obtain ⟨i, rfl⟩ := Nat.exists_eq_add_of_le (show j ≤ d from Nat.le_of_add_le_add_left (Nat.add_comm d k ▸ h1))
  rw [Nat.add_sub_cancel_left, Nat.add_sub_cancel_left, Nat.add_sub_cancel_left, show j + i + k = k + j + i by rw [Nat.add_comm (j + i), Nat.add_assoc], Nat.add_sub_cancel_left, Nat.add_sub_cancel]
  exact ⟨rfl, rfl⟩
theorem binds_of {s : Shared} {fd : FuncData} {vals ds : List Value} (hp : plainArgs fd.params = true) (hn : (fd.params.args.map (·.arg)).Nodup)
    (hd : (fd.defaults = .none ∧ ds = []) ∨ ∃ T o n, fd.defaults = .ref T ∧ s.heap.get? T = some o ∧ o.data = .seq ds.toArray n)
    (h1 : vals.length ≤ fd.params.args.length) (h2 : fd.params.args.length ≤ vals.length + ds.length) (h3 : ds.length ≤ fd.params.args.length) :
    BindsTo s fd ⟨vals, []⟩ ((fd.params.args.map (·.arg)).zip (vals ++ ds.drop (ds.length - (fd.params.args.length - vals.length)))) := by
  intro M A E Q hq
  obtain ⟨⟨pos, args, va, kwo, kwd, kwa, dfl⟩, hp', rest⟩ : ∃ p, p = fd.params ∧ True := ⟨_, rfl, trivial⟩
  rw [← hp'] at hp hn h1 h2 h3 hq
  unfold plainArgs at hp
  simp only [Bool.and_eq_true, List.isEmpty_iff, Option.isNone_iff_eq_none] at hp
  obtain ⟨⟨⟨rfl, rfl⟩, rfl⟩, rfl⟩ := hp
  dsimp only at hn h1 h2 h3 hq
  have names : (args.map (·.arg)).length = args.length := List.length_map _
  have sq : wpAny M A (seqItems? fd.defaults) (fun o s' => s' = s ∧ (o.getD #[]).toList = ds) (fun u_ u_ => False) s := by
    refine foldg fun G0 fin0 => ?_
    rcases hd with ⟨e, rfl⟩ | ⟨T, o, n, e, ho, hdt⟩
    · refine fin0 ?_
      rw [e]; exact wpAny_pure ⟨rfl, rfl⟩
    · refine fin0 ?_
      rw [e]; exact wpAny_seqItems ho hdt ⟨rfl, by simp⟩
  have dl : ds.drop (ds.length - (args.map (·.arg)).length) = ds := by rw [names, Nat.sub_eq_zero_of_le h3, List.drop_zero]
  have look := lookup_zip (args.map (·.arg)) vals hn
  have miss : (((args.map (·.arg)).take ((args.map (·.arg)).length - ds.length)).filter fun n => (((args.map (·.arg)).zip vals).lookup n).isNone) = [] := by
    rw [List.filter_eq_nil_iff]
    intro n hm
    obtain ⟨i, hi, e⟩ := List.getElem_of_mem hm
    rw [List.length_take, names] at hi
    rw [List.getElem_take] at e
    rw [← e, look i (by rw [names]; exact Nat.lt_of_lt_of_le hi (Nat.min_le_right ..)), List.getElem?_eq_getElem (Nat.lt_of_lt_of_le (Nat.lt_of_lt_of_le hi (Nat.min_le_left ..)) (Nat.sub_le_iff_le_add.mpr h2))]
    exact Bool.false_ne_true
  have hfull : (vals ++ ds.drop (vals.length - ((args.map (·.arg)).length - ds.length))).length = args.length := by
    rw [names, List.length_append, List.length_drop]; exact (full_sub h1 h2 h3).1
  have last := bind_all ((args.map (·.arg)).zip (vals ++ ds.drop (vals.length - ((args.map (·.arg)).length - ds.length)))) (args.map (·.arg)) _ (names.trans hfull.symm) (lookup_zip _ _ hn)
  have fin : Q (List.filterMap (fun n => (((args.map (·.arg)).zip (vals ++ ds.drop (vals.length - ((args.map (·.arg)).length - ds.length)))).lookup n).map (n, ·)) ((args.map (·.arg)) ++ ([] : List Str))) s := by
    rw [List.append_nil, last, names, (full_sub h1 h2 h3).2]; exact hq
  unfold bindArgs
  refine rwl hp' (wpAny_bind (wpAny_pure ?_))
  refine wpAny_bind (wpAny_mono sq (fun o s' ho => ?_) fun u_ u_ x => x.elim)
  obtain ⟨rfl, ho⟩ := ho
  refine rwg ho (wpAny_neg ?_ (rwg dl (wpAny_neg ?_ ?_)))
  · exact fun q => absurd (of_decide_eq_true (show decide (vals.length > (args.map (·.arg)).length) = true from (Bool.and_eq_true_iff.mp q).1)) (Nat.not_lt.mpr (names.symm ▸ h1))
  · exact fun q => by
      have q : (!List.isEmpty (((args.map (·.arg)).take ((args.map (·.arg)).length - ds.length)).filter fun n => (((args.map (·.arg)).zip vals).lookup n).isNone)) = true := q
      rw [miss] at q; cases q
  refine rwg (bind_loop hn (fun u_ u_ u_ => rfl) ds _ vals (show (args.map (·.arg)).length - ds.length + ds.length = (args.map (·.arg)).length by rw [names]; exact Nat.sub_add_cancel h3) (show (args.map (·.arg)).length - ds.length ≤ vals.length by rw [names]; exact Nat.sub_le_iff_le_add.mpr h2) (by rw [names]; exact h1)) (wpAny_bind (wpAny_pure (wpAny_bind (wpAny_pure (wpAny_no ?_)))))
  exact wpAny_pure fin
end Mine
end
section
namespace Mine
noncomputable def DfltR (C : Cx) (ds : List V) (dV : Value) : Prop := (dV = .none ∧ ds = []) ∨ ∃ T o ws n, dV = .ref T ∧ C.K.lookup T = some o ∧ o.data = .seq ws n ∧ ∀ z, VRs C z ds ws.toList
noncomputable def DefOk (C : Cx) (a : Addr) (d : Def) : Prop :=
  ∃ m fd b, FunAt C.K a fd b ∧ plainArgs fd.params = true ∧ fd.params.args.map (·.arg) = (d.locals.take d.params).map Str.ofString ∧ d.params ≤ m ∧ m ≤ d.locals.length ∧ ((d.locals.take m).map Str.ofString).Nodup ∧
    (∀ p ∈ visN d m, fd.scope.names.lookup p.2 = some .local ∨ fd.scope.names.lookup p.2 = some .cell) ∧ d.dflt.length ≤ d.params ∧ DfltR C d.dflt fd.defaults ∧ RSs fd.scope.names (visN d m) d.body b = true
theorem zip_range {α : Type} {l : List α} {m : Nat} (hm : m = l.length) {p : Nat × α} : p ∈ (List.range m).zip l ↔ l[p.1]? = some p.2 := by
  constructor
  · intro h
    obtain ⟨i, hi, e⟩ := List.getElem_of_mem h
    rw [List.getElem_zip] at e
    have hi' : i < l.length := by simp at hi; lia
    have e1 : p.1 = i := by rw [← e]; simp
    rw [e1, List.getElem?_eq_getElem hi', ← e]
  · intro h
    have hlt : p.1 < l.length := (List.getElem?_eq_some_iff.mp h).1
    have : ((List.range m).zip l)[p.1]? = some p := by
      rw [List.getElem?_zip_eq_some]
      exact ⟨by rw [List.getElem?_range (by lia)], h⟩
    exact List.mem_of_getElem? this
theorem call_ok {C : Cx} {initA : Addr} {tab : Fn → Def} (hd : ∀ f, DefOk C (C.fnA f) (tab f)) (hx : ∀ base mg mb, Facts C base mg mb → XFacts C initA mg) : ∀ n, CallOk C (4 * n) (wCall tab n)
  | 0 => fun base mg mb F A l z fr a r hh f args vals rv z₁ σ h k g d os Q X hz q => q.elim
  | n + 1 => fun base mg mb F A l z fr a r hh f args vals rv => by
    obtain ⟨m, fd, stmts, ⟨⟨oc, od, osl, d1⟩, d2, d3, d4, d5⟩, d6, d7, d8, d9, d10, d11, d12, d13, d14⟩ := hd f
    intro z₁ σ h k g d os Q X hz q S hX R hQ hE
    obtain ⟨ql, q⟩ := q
    have lv := rv.length
    have la : fd.params.args.length = (tab f).params := by
      have := congrArg List.length d7
      simpa [Nat.min_eq_left (Nat.le_trans d8 d9)] using this
    have lt : ((tab f).locals.take m).length = m := by simp; lia
    unfold Def.full at ql
    rw [List.length_append, List.length_drop, Nat.sub_sub_eq_min] at ql
    have ex : ∃ ds : List Value, (∀ z, VRs C z (tab f).dflt ds) ∧ ((fd.defaults = .none ∧ ds = []) ∨ ∃ T o n, fd.defaults = .ref T ∧ C.K.lookup T = some o ∧ o.data = .seq ds.toArray n) := by
      refine foldg fun G0 fin0 => ?_
      rcases d13 with ⟨e1, e2⟩ | ⟨T, o, ws, n, e1, e2, e3, e4⟩
      · refine fin0 ?_
        exact ⟨[], fun z => by rw [e2]; exact VRs.nil, .inl ⟨e1, rfl⟩⟩
      · refine fin0 ?_
        exact ⟨ws.toList, e4, .inr ⟨T, o, n, e1, e2, by simpa using e3⟩⟩
    obtain ⟨ds, rd, hdf⟩ := ex
    have ld := (rd z).length
    have h1 : vals.length ≤ fd.params.args.length := by rw [lv, la]; exact Nat.le.intro ql
    have h2 : fd.params.args.length ≤ vals.length + ds.length := by rw [lv, la, ld]; exact ql ▸ Nat.add_le_add_left (Nat.min_le_left ..) _
    have h3 : ds.length ≤ fd.params.args.length := by rw [la, ld]; exact d12
    have eqd : ds.length - (fd.params.args.length - vals.length) = (tab f).dflt.length - ((tab f).params - args.length) := by rw [ld, la, lv]
    have rv' : VRs C z ((tab f).full args) (vals ++ ds.drop (ds.length - (fd.params.args.length - vals.length))) := by
      rw [eqd]; exact rv.append ((rd z).drop _)
    have vm : ∀ {p : Nat × Str}, p ∈ visN (tab f) m ↔ (((tab f).locals.take m).map Str.ofString)[p.1]? = some p.2 := zip_range (by simp; lia)
    refine run_def (z := z) F a (by have := r.1; lia) d1 d2 d3 d4 d5 (vis := visN (tab f) m) d11 (fun p hp p' hp' e => ?_) (fun p hp p' hp' e => ?_) (args := (tab f).full args) (names := fd.params.args.map (·.arg)) (nl := (tab f).locals.length - (tab f).params)
      (by rw [d7]; exact d10.sublist (List.Sublist.map _ (List.take_sublist_take_left d8))) (fun i nm hi => ?_) ?_ (fun s hs => binds_of d6 ?_ ?_ h1 h2 h3) rv' ?_ z₁ σ h k g d os Q X hz q S hX R hQ hE
    · rw [vm] at hp hp'
      rw [e] at hp
      exact Prod.ext e (Option.some.inj (hp.symm.trans hp'))
    · rw [vm] at hp hp'
      rw [e] at hp
      have i1 := (List.getElem?_eq_some_iff.mp hp).1
      have := (List.getElem?_inj i1 d10).mp (hp.trans hp'.symm)
      exact Prod.ext this e
    · rw [vm]
      rw [d7] at hi
      dsimp only
      rw [List.getElem?_map] at hi ⊢
      obtain ⟨x, e1, e2⟩ := Option.map_eq_some_iff.mp hi
      rw [List.getElem?_take] at e1
      split at e1
      · rw [List.getElem?_take, if_pos (by lia), e1]; exact congrArg some e2
      · cases e1
    · rw [List.length_map, la]
      unfold Def.full
      rw [List.length_append, List.length_drop, Nat.sub_sub_eq_min]
      exact ql.symm
    · show (fd.params.args.map (·.arg)).Nodup
      rw [d7]; exact d10.sublist (List.Sublist.map _ (List.take_sublist_take_left d8))
    · refine foldg fun G0 fin0 => ?_
      rcases hdf with hdf | ⟨T, o, n', e1, e2, e3⟩
      · refine fin0 ?_
        exact .inl hdf
      · refine fin0 ?_
        exact .inr ⟨T, o, n', e1, hs _ _ e2, e3⟩
    · intro z₂ env L o hz₂ B hf hL ao
      have S' := snd_Ss (C := C) (initA := initA) (n := 4 * n) (call := wCall tab n) (tab f).body stmts base mg mb (A.deeper env) l z₂ fr env L fd.scope.names (visN (tab f) m) d14
      refine S' ⟨F, hx base mg mb F, call_ok hd hx n, B, hf, fun o' => ⟨ao.frames, fun e he => ?_⟩, ⟨?_, ?_⟩, hh⟩
      · obtain ⟨k1, L', k2, k3⟩ := ao.there e he
        refine ⟨k1, L', k2, ?_⟩
        by_cases q : L' = L
        · rw [q, Fz.set_self]; rfl
        · rw [Fz.set_ne _ _ q] at k3 ⊢; exact k3
      · show A.depth + 1 + (4 * n + 1) + 10 < _
        have := r.1; lia
      · show A.units + 3 + 40 * (4 * n + 1) + 400 < _
        have := r.2; lia
end Mine
end
section
namespace Mine
theorem allFn_all (f : Fn) : f ∈ allFn := by cases f <;> decide
theorem allCls_all (c : Cls) : c ∈ allCls := by cases c <;> decide
theorem frag_at {h : Heap} {a : Addr} {o : Obj} {l : List Addr} : List.lookup a (l.filterMap fun a => (h.get? a).map fun o => (a, o)) = some o → h.get? a = some o := by
  induction l with
  | nil => exact nofun
  | cons b r ih =>
    intro e
    rw [List.filterMap_cons] at e
    cases q : h.get? b with
    | none => rw [q] at e; exact ih e
    | some p =>
      rw [q] at e
      simp only [Option.map_some, List.lookup_cons] at e
      by_cases x : a == b
      · rw [x] at e; cases e; rw [beq_iff_eq.mp x]; exact q
      · rw [Bool.not_eq_true] at x; rw [x] at e; exact ih e
theorem fragOf_in (h : Heap) : (fragOf h).In h := fun u_ u_ e => frag_at e
theorem litB_spec {C : Cx} {z : Fz} {v : V} {w : Value} (h : litB v w = true) : VR C z v w := by
  cases v with
  | int i => obtain ⟨p, rfl, h⟩ := any_at (o := asInt w) h; rw [beq_iff_eq.mp h]; simp only [VR]; exact ⟨_, rfl⟩
  | none => rw [beq_iff_eq.mp h]; simp only [VR]
  | _ => cases h
theorem litsB_spec {C : Cx} {z : Fz} {vs : List V} : ∀ {ws : List Value}, litsB vs ws = true → VRs C z vs ws := by
  induction vs with
  | nil => intro ws h; rw [List.isEmpty_iff.mp h]; exact VRs.nil
  | cons v vs ih =>
    intro ws h
    cases ws with
    | nil => cases h
    | cons w ws => exact VRs.cons (litB_spec (and2 h).1) (ih (and2 h).2)
theorem dfltB_spec {C : Cx} {ds : List V} {dV : Value} (h : dfltB C.K ds dV = true) : DfltR C ds dV := by
  rcases Bool.or_eq_true_iff.mp h with h | h
  · exact .inl ⟨beq_iff_eq.mp (and2 h).1, List.isEmpty_iff.mp (and2 h).2⟩
  · obtain ⟨T, e, h⟩ := any_at h
    obtain ⟨o, ho, h⟩ := any_some h
    obtain ⟨p, hd, h⟩ := any_at h
    exact .inr ⟨T, o, p.1, p.2, e, ho, hd, fun z => litsB_spec h⟩
theorem fd_eq {fd : FuncData} {b : List Stmt} (e : fd.body = .stmts b) (g : fd.globals = mainGlobals) (c : fd.closure = []) (i : fd.builtins = builtinsNs) : fd = bare fd b := by cases fd; cases e; cases g; cases c; cases i; rfl
theorem obj_eq {o : Obj} {d : Data} (e : o.data = d) : o = ⟨o.cls, o.dict, d, o.slots⟩ := by cases o; cases e; rfl
theorem funB_spec {K : Frag} {a : Addr} {P : Arguments → List Stmt → Scope → Value → Bool} (h : funB K a P = true) : ∃ fd b, FunAt K a fd b ∧ plainArgs fd.params = true ∧ P fd.params b fd.scope fd.defaults = true := by
  obtain ⟨o, ho, h⟩ := any_some h
  obtain ⟨fd, e1, h⟩ := any_at h
  obtain ⟨b, e2, h⟩ := any_at h
  have g := and7 h
  have f := and3 g.1
  exact ⟨fd, b, ⟨⟨_, _, _, ho.trans (congrArg some (obj_eq (e1.trans (congrArg Data.func (fd_eq e2 (beq_iff_eq.mp f.1) (List.isEmpty_iff.mp f.2.1) (beq_iff_eq.mp f.2.2))))))⟩, g.2.1, beq_iff_eq.mp g.2.2.1, not_t g.2.2.2.1, not_t g.2.2.2.2.1⟩, g.2.2.2.2.2⟩
theorem nodupB_spec {l : List Str} : nodupB l = true → l.Nodup := by
  induction l with
  | nil => exact fun u_ => .nil
  | cons x r ih =>
    intro h
    obtain ⟨h1, h2⟩ := Bool.and_eq_true_iff.mp h
    exact List.nodup_cons.mpr ⟨by simpa using h1, ih h2⟩
theorem defB_spec {C : Cx} (hf : C.fnA = fnAt) {f : Fn} (h : defB C.K f = true) : DefOk C (C.fnA f) (tab f) := by
  obtain ⟨fd, b, h1, h6, h7⟩ := funB_spec h
  have g := and5 h7
  have k := and4 g.1
  rw [hf]
  exact ⟨seen f, fd, b, h1, h6, beq_iff_eq.mp k.1, Nat.le_of_ble_eq_true k.2.1, Nat.le_of_ble_eq_true k.2.2.1, nodupB_spec k.2.2.2,
    fun p hp => (Bool.or_eq_true_iff.mp (List.all_eq_true.mp g.2.1 p hp)).imp beq_iff_eq.mp beq_iff_eq.mp, Nat.le_of_ble_eq_true g.2.2.1, dfltB_spec g.2.2.2.1, g.2.2.2.2⟩
theorem globV_spec {C : Cx} (hf : C.fnA = fnAt) (hc : C.clsA = clsAt) {mg mb : Str → Option Value} (hb : ∀ x : Str, x ≠ "__name__" → mb x = bootBuiltins x) {s : Str} {v : V} (h : globV mg s v = true) :
    ∃ val, (mg s = some val ∨ (mg s = none ∧ mb s = some val)) ∧ ∀ z, VR C z v val := by
  cases v with
  | int i =>
    obtain ⟨w, e, h⟩ := any_some h
    obtain ⟨p, rfl, h⟩ := any_at h
    exact ⟨_, .inl e, fun z => by rw [beq_iff_eq.mp h]; simp only [VR]; exact ⟨_, rfl⟩⟩
  | bytes b =>
    obtain ⟨w, e, h⟩ := any_some h
    obtain ⟨p, rfl, h⟩ := any_at h
    exact ⟨_, .inl e, fun z => by rw [← beq_iff_eq.mp h]; simp only [VR]; exact ⟨_, rfl⟩⟩
  | fn f => exact ⟨_, .inl (beq_iff_eq.mp h), fun z => by simp only [VR]; rw [hf]⟩
  | cls c => exact ⟨_, .inl (beq_iff_eq.mp h), fun z => by simp only [VR]; rw [hc]⟩
  | bi v =>
    have g := and3 h
    exact ⟨v, .inr ⟨beq_iff_eq.mp g.1, (hb _ (bne_iff_ne.mp g.2.2)).trans (beq_iff_eq.mp g.2.1)⟩, fun z => by simp only [VR]⟩
  | _ => cases h
theorem lookup_in {α β : Type} [BEq α] [LawfulBEq α] {n : α} {f : β} {l : List (α × β)} : l.lookup n = some f → (n, f) ∈ l := by
  induction l with
  | nil => exact nofun
  | cons p l ih =>
    intro h
    rw [List.lookup_cons] at h
    cases q : n == p.1 with
    | true => rw [q] at h; cases h; rw [beq_iff_eq.mp q]; exact .head _
    | false => rw [q] at h; exact .tail _ (ih h)
noncomputable def cxOf (prog : Program) (w : World) (K : Frag) : Cx := ⟨prog, w, K, fnAt, clsAt, 75⟩
section
variable {prog : Program} {w : World} {K : Frag} {base : Heap} {mg mb : Str → Option Value}
theorem mg_of (hin : K.In base) (g : base.Ns mainGlobals mg) (h : allB K = true) : mg = mgK K := by
  obtain ⟨o, ho⟩ := Option.isSome_iff_exists.mp (and4 (and5 h).1).2.2.2
  obtain ⟨p, es, ep, hp, d, _, hn⟩ := g
  obtain rfl : p = o := Option.some.inj (hp.symm.trans (hin _ _ ho))
  funext n
  unfold mgK
  rw [ho, Option.bind_some, d]
  exact (hn n).symm
theorem law_of (h : allB K = true) : mgK K (Str.ofString "law") = some (.ref 587) ∧ (K.all fun p => p.2.cls != .type "list") = true := ⟨beq_iff_eq.mp (and4 (and5 h).1).2.1, (and2 (and5 h).2.1).2⟩
theorem facts_of (hin : K.In base) (lim : base.NoLimit) (g : base.Ns mainGlobals mg) (b : base.Ns builtinsNs mb) (hb : ∀ x : Str, x ≠ "__name__" → mb x = bootBuiltins x) (h : allB K = true) : Facts (cxOf prog w K) base mg mb where
  inn := hin
  lim := lim
  sys := by
    obtain ⟨o, ho⟩ := Option.isSome_iff_exists.mp (and2 (and5 h).2.1).1
    rw [hin _ _ ho]; rfl
  g := g
  b := b
  glob := fun n hn => globV_spec rfl rfl hb (mg_of hin g h ▸ List.all_eq_true.mp (and4 (and5 h).1).1 n hn)
  attr := fun c n hn =>
    have q := and3 (List.all_eq_true.mp (and4 (List.all_eq_true.mp (and5 h).2.2.1 c (allCls_all c))).1 n hn)
    ⟨q.1, beq_iff_eq.mp q.2.1, beq_iff_eq.mp q.2.2⟩
  dict := fun c =>
    have q := and3 (and4 (List.all_eq_true.mp (and5 h).2.2.1 c (allCls_all c))).2.1
    ⟨q.1, q.2.1, beq_iff_eq.mp q.2.2⟩
  meth := fun c n f hm =>
    have q := and2 (List.all_eq_true.mp (and4 (List.all_eq_true.mp (and5 h).2.2.1 c (allCls_all c))).2.2.1 (n, f) (lookup_in hm))
    ⟨q.1, beq_iff_eq.mp q.2⟩
  make := fun c =>
    have q := and3 (and4 (List.all_eq_true.mp (and5 h).2.2.1 c (allCls_all c))).2.2.2
    ⟨q.1, beq_iff_eq.mp q.2.1, q.2.2⟩
  fn := fun f =>
    have q := and3 (List.all_eq_true.mp (and5 h).2.2.2.1 f (allFn_all f))
    ⟨q.1, q.2.1⟩
theorem defs_of (h : allB K = true) : ∀ f, DefOk (cxOf prog w K) ((cxOf prog w K).fnA f) (tab f) := fun f => defB_spec rfl (and3 (List.all_eq_true.mp (and5 h).2.2.2.1 f (allFn_all f))).2.2
theorem init_binds {s : Shared} {fd : FuncData} {a b : Value} (hp : plainArgs fd.params = true) (g : fd.params.args.map (·.arg) = ([("self" : Str), ("message" : Str)] : List Str)) (hd : fd.defaults = .none) :
    BindsTo s fd ⟨[a, b], []⟩ [(("self" : Str), a), (("message" : Str), b)] := by
  have la : fd.params.args.length = 2 := by rw [← List.length_map (f := (·.arg)), g]; rfl
  have r := binds_of (s := s) (vals := [a, b]) (ds := []) hp (by rw [g]; exact nodupB_spec rfl) (.inl ⟨hd, rfl⟩) (Nat.le_of_eq la.symm) (Nat.le_of_eq la) (Nat.zero_le _)
  rw [g] at r
  exact r
theorem exc_of (h : allB K = true) (hin : K.In base) (g : base.Ns mainGlobals mg) : XFacts (cxOf prog w K) 35 mg := by
  have e := and4 (and5 h).2.2.2.2
  have e1 := and4 e.1
  have e3 := and2 e.2.2.1
  refine ⟨mg_of hin g h ▸ beq_iff_eq.mp (and4 (and5 h).1).2.2.1, e1.1, e1.2.1, beq_iff_eq.mp e1.2.2.1, beq_iff_eq.mp e1.2.2.2, e.2.1, beq_iff_eq.mp e3.1, beq_iff_eq.mp e3.2, ?_⟩
  obtain ⟨fd, b, h1, h6, h7⟩ := funB_spec e.2.2.2
  have k := and6 h7
  exact ⟨fd, b, h1, k.1, beq_iff_eq.mp k.2.1, beq_iff_eq.mp k.2.2.1, fun x hx => bne_iff_ne.mp (List.all_eq_true.mp k.2.2.2.1 x hx), fun s a c => init_binds (fd := bare fd b) h6 (beq_iff_eq.mp k.2.2.2.2.1) (beq_iff_eq.mp k.2.2.2.2.2)⟩
end
end Mine
end
section
open PySem.Calls
namespace Mine
noncomputable def callerC : Ctx := ⟨.builtin "claim.caller" {}, none, none, [], none⟩
theorem caller_ok0 : badIds.contains "claim.caller" = false := by kernel_rfl
theorem caller_ok1 : okCode (.builtin "claim.caller" {}) := by
  simp only [okCode]
  exact caller_ok0
theorem caller_ok : OkC callerC := ⟨caller_ok1, fun x hx => by cases hx⟩
theorem thread_ends_C {prog : Program} {w : World} {t : Sem Fin} {s : Shared} {R : Result → Shared → Prop} (hreg : s.asleep) (hG : leftWithCleanup s.gens = false)
    (h : wpC (model prog w) callerA t (fun fin s' => ∃ f, fin = .done f ∧ (R (.ok f) s' ∧ s'.gens = #[])) (fun e s' => R (.error e) s' ∧ s'.gens = #[]) { s with gens := #[] }) :
    ∃ n r s', schedN (denote table) prog w n (.single s ⟨t, .builtin "claim.caller" {}, default, []⟩) = .halted (outcomeOf r) { s' with gens := s.gens } ∧ s'.heap.life = s.heap.life ∧ R r s' := by
  have h' : Sem.wp (model prog w) callerC t (Sem.finPost (model prog w) callerC (fun r s' => (R r s' ∧ s'.gens = #[]) ∧ leftWithCleanup s'.gens = false)) (fun e u_ s' => (R (.error e) s' ∧ s'.gens = #[]) ∧ leftWithCleanup s'.gens = false) default { s with gens := #[] } := by
    refine Sem.wp_mono _ _ t (fun fin p' s' x => ?_) (fun e p' s' x => ⟨x, by rw [x.2]; simp [leftWithCleanup]⟩) default _ (h callerC default caller_in caller_ok)
    refine foldg fun G0 fin0 => ?_
    obtain ⟨f, rfl, x⟩ := x
    refine fin0 ?_
    exact ⟨x, by rw [x.2]; simp [leftWithCleanup]⟩
  refine foldg fun G0 fin0 => ?_
  obtain ⟨n, r, s₁, hn, hR, hg⟩ := (wp_iff_halts (M := model prog w) (R := fun r s' => R r s' ∧ s'.gens = #[]) ..).mp h'
  obtain ⟨s₂, hr, hf, hc⟩ := runNI_real _ _ _ hn (outcomeOf_ends r)
  refine fin0 ?_
  obtain rfl : s₂ = s₁ := Shared.eq_of_forget_eq hf hg
  exact ⟨n, r, s₂, sched_gens (s := { s with gens := #[] }) hG hr (outcomeOf_ends r) hg rfl hc hreg, runN_life (s := { s with gens := #[] }) _ _ _ hr, hR⟩
theorem callFrom_C {c : ClaimW} {tree : List Value → Sem Fin} {w : World} {s : Shared} {free : Addr → Prop} {gens : Prop} {kept : Heap → Prop} (hz : s.asleep) (hG : leftWithCleanup s.gens = false)
    (hspec : ∀ args, c.pre args = true → WData.layableAll args = true → ∀ ord : List DictEntry → List DictEntry, (∀ l, (ord l).Perm l) →
      ∃ vs s₁, layAllW c.records (classAt s.heap) w.params ord args s = some (vs, s₁) ∧
        wpC (model c.prog w) callerA (tree vs) (fun fin s' => ∃ f, fin = .done f ∧ (c.Ends s args vs s₁ (.ok f) s' ∧ s'.os = s.os ∧ s'.gens = #[] ∧ kept s'.heap))
          (fun e s' => c.Ends s args vs s₁ (.error e) s' ∧ s'.os = s.os ∧ s'.gens = #[] ∧ kept s'.heap) { s₁ with gens := #[] }) :
    c.CallFrom (fun vs => ⟨tree vs, .builtin "claim.caller" {}, default, []⟩) w free gens kept s := by
  intro args hpre hlay ord hord
  refine foldg fun G0 fin0 => ?_
  obtain ⟨vs, s₁, hlaid, hcode⟩ := hspec args hpre hlay ord hord
  have hal := layAllW_rest _ _ _ hlaid
  obtain ⟨k, r, s', hsched, hlife, hcase, hos, hkp⟩ := thread_ends_C (prog := c.prog) (w := w) (t := tree vs) (s := s₁) (R := fun r s' => c.Ends s args vs s₁ r s' ∧ s'.os = s.os ∧ kept s'.heap)
    (Shared.asleep_of_life hal.2.2.2 hz) (by rw [show s₁.gens = s.gens from hal.1]; exact hG)
    (wpC_mono hcode (fun u_ u_ h => h.imp fun f h => ⟨h.1, ⟨h.2.1, h.2.2.1, h.2.2.2.2⟩, h.2.2.2.1⟩) fun u_ u_ h => ⟨⟨h.1, h.2.1, h.2.2.2⟩, h.2.2.1⟩)
  refine fin0 ?_
  refine ⟨vs, s₁, hlaid, k, _, _, hsched, ?_, (fun u_ i x hx => by rw [← hx]; exact congrArg (·[i]?) hal.1), hkp, congrArg Life.seen (hlife.trans hal.2.2.2), Shared.rest_eq hos⟩
  refine foldg fun G0 fin0 => ?_
  rcases hcase with ⟨v, rfl, d1, d2, d3, d4, d5⟩ | ⟨e, ob, cls, rfl, d1, d2, d3, d4, d5⟩
  · exact fin0 (.inl ⟨v, rfl, d1, d2, d3, fun b o y u_ => d4 b o y, d5⟩)
  · exact fin0 (.inr ⟨e, ob, cls, rfl, d1, d2, d3, d4, fun b o y u_ => d5 b o y⟩)
end Mine
end
section
open PySem.Calls
namespace Mine
theorem open_C {r : RowW} {run : Value → List Value → Sem Value} {tree : List Value → Sem Fin} {q : Program} {loose defs kps : List Str} {writes : Bool} {Xt : Shared → Bool} {XP : (Str → Option Value) → Heap → Prop} {α : Type} {Yf : Shared → α} {Ya : World → α} {YP : World → Heap → Prop} {N : Nat}
    (left : LeftO r.prog q loose Xt Yf Ya N false) (hY : ∀ w s, Yf s = Ya w → YP w s.heap) (hYk : ∀ w h h', YP w h → (∀ b o, h.get? b = some o → h'.get? b = some o) → YP w h') (hX : ∀ s, Xt s = true → XP (s.heap.nsMap mainGlobals) s.heap) (hXk : ∀ mg h h', XP mg h → (∀ b o, h.get? b = some o → h'.get? b = some o) → XP mg h')
    (hRf : ∀ s, Xt s = true → RecFacts r.records s.heap) (hwr : (!writes || r.records.isEmpty) = true) (ok : (chainsOk q && opensWell r.prog && (frees r && r.within.isEmpty)) = true) (hb : r.prog.bare) (hw : r.promised)
    (ht : ∀ vs (w : World) (s : Shared) mg f (Q : Fin → Shared → Prop) (E : Value → Shared → Prop), s.heap.Ns mainGlobals mg → mg r.name = some f → wpC (model r.prog w) callerA (run f vs) (fun v s' => Q (.done (.ret v)) s') E s → wpC (model r.prog w) callerA (tree vs) Q E s)
    (pin : ∀ w s, s.heap.isNs mainGlobals = true → Ground q loose [] XP w s (s.heap.nsMap mainGlobals) (s.heap.nsMap builtinsNs) s.heap → ∀ n ∈ defs, isTheDefsW r.prog s.heap n)
    (call : ∀ (w : World) (s₀ s₁ : Shared) (mg mb : Str → Option Value), Ground q loose r.records XP w s₀ mg mb s₁.heap → YP w s₁.heap → ∀ (args : List WData) (vs : List Value) (as : List Addr),
      r.claim.pre args = true → WData.layableAll args = true → s₁.gens = #[] → ReadsAllW r.records (classAt s₀.heap) s₁.heap vs args as → WellAll w.params s₁.heap vs args → (∀ a ∈ as, (a == sysModules) = false) → ∃ f, mg r.name = some f ∧
        wpC (model r.prog w) callerA (run f vs) (fun v s' => GoodW r.claim (classAt s₀.heap) (ExcName.means s₀.heap) args s₁ (.ok (.ret v)) s')
          (fun e s' => GoodW r.claim (classAt s₀.heap) (ExcName.means s₀.heap) args s₁ (.error e) s') s₁) : r.claim.HoldsOpenBy (fun vs => ⟨tree vs, .builtin "claim.caller" {}, default, []⟩) defs kps writes := by
  refine foldg fun G0 fin0 => ?_
  obtain ⟨ok, k5⟩ := Bool.and_eq_true_iff.mp ok
  obtain ⟨hch, o1⟩ := Bool.and_eq_true_iff.mp ok
  obtain ⟨k5, k6⟩ := Bool.and_eq_true_iff.mp k5
  obtain ⟨hsame, hu, ha, hap, hm⟩ := frees_parts k5
  refine fin0 ?_
  refine ⟨⟨hb, o1, by show r.makers.map _ = []; rw [hm]; rfl⟩, hw.witness, fun w => ⟨(left.behind hX hch w).1, fun s' hs' => ?_⟩⟩
  refine foldg fun G0 fin0 => ?_
  obtain ⟨s₀, hf, hg0, s, hT, hz, hgens, hg, G00, y⟩ := (left.behind (XP := fun mg h => XP mg h ∧ RecFacts r.records h) (fun s hs => ⟨hX s hs, hRf s hs⟩) hch w).2 s' hs'
  refine fin0 ?_
  have G0 : Ground q loose [] XP w s (s.heap.nsMap mainGlobals) (s.heap.nsMap builtinsNs) s.heap := ⟨G00.T, G00.B, G00.D, G00.TE, G00.TD, G00.W, G00.X.1, G00.cls, G00.has, G00.apart, G00.once, G00.K⟩
  have RF := G00.X.2
  have hT' := hT
  refine ⟨s₀, hf, hg0, s, hT, pin w s hg G0, RF.1, RF.2.1, ?_⟩
  have hgens : leftWithCleanup s.gens = false := by simpa using hgens
  have G : Ground q loose r.records XP w s _ _ s.heap := RF.ground G0
  refine callFrom_C (c := r.claim) hz hgens fun args hpre hlay ord hord => ?_
  obtain ⟨⟨vs, s₁⟩, hlaid⟩ := Option.isSome_iff_exists.mp (layAllW_isSome (P := w.params) (ord := ord) G.has args r.args s (pre_splitW hpre).1)
  have keeps := layAllW_keeps _ _ _ hlaid
  have hal := layAllW_rest _ _ _ hlaid
  obtain ⟨as, hrd, hin, hold⟩ := reads_layAllW hord _ _ _ hlaid hlay s₁.heap (fun u_ u_ e => e)
  have G₁ := G.keeps hXk keeps
  obtain ⟨f, hf, h⟩ := call w s { s₁ with gens := #[] } _ _ G₁ (hYk _ _ _ (hY w s y) keeps) args vs as hpre hlay rfl hrd (well_layAllW hord args s _ hlaid _ fun u_ u_ e => e)
    (fun a ha => beq_eq_false_iff_ne.mpr fun e => by have := (hin.2.2 a ha).1; subst e; exact absurd G.low (Nat.not_lt.mpr this))
  have hi := ident_freeW hu ha hap
  have hwi : r.claim.within = [] := List.isEmpty_iff.mp k6
  exact ⟨vs, s₁, hlaid, ht vs w { s₁ with gens := #[] } _ f _ _ G₁.T.g hf (wpC_mono h (fun v s' g => ⟨_, rfl, have z := g.endsN (c := r.claim) hsame hwi hi hrd hold hal.2.2.1; ⟨z.1, z.2.1, z.2.2, fun q => ⟨namesKept_of hT' hg kps keeps fun b o e => .inl (g.2.1 b o e), noTable hwr q⟩⟩⟩) fun e s' g => have z := g.endsN (c := r.claim) hsame hwi hi hrd hold hal.2.2.1; ⟨z.1, z.2.1, z.2.2, fun q => ⟨namesKept_of hT' hg kps keeps fun b o e => .inl (g.2.1 b o e), noTable hwr q⟩⟩)⟩
end Mine
end
section
namespace Mine
structure Has (R σ : Store) (cs : List (Addr × O)) : Prop where
  nd : (cs.map (·.1)).Nodup
  at_ : ∀ p ∈ cs, σ p.1 = some p.2
  off : ∀ p ∈ cs, R p.1 = none
  rest : Less R σ
section
variable {R σ : Store} {cs ds : List (Addr × O)} {a : Addr} {o o' : O}
theorem Store.self (σ : Store) (a : Addr) (o : O) : (σ.set a o) a = some o := if_pos rfl
theorem Store.other (σ : Store) {a b : Addr} (o : O) (h : b ≠ a) : (σ.set a o) b = σ b := if_neg h
theorem Has.get (H : Has R σ cs) (i : Nat) (e : cs[i]? = some (a, o)) : σ a = some o := H.at_ (a, o) (List.mem_of_getElem? e)
theorem Has.r (H : Has R σ cs) (e : R a = some o) : σ a = some o := H.rest _ _ e
theorem Has.set (H : Has R σ (cs ++ (a, o) :: ds)) (o' : O) : Has R (σ.set a o') (cs ++ (a, o') :: ds) := by
  have nd := H.nd
  rw [List.map_append, List.map_cons, List.nodup_append, List.nodup_cons] at nd
  obtain ⟨n1, ⟨n2, n3⟩, n4⟩ := nd
  have ha := H.off (a, o) (List.mem_append_right _ (.head _))
  refine ⟨by have := H.nd; rwa [List.map_append, List.map_cons] at this ⊢, fun p hp => ?_, fun p hp => ?_, fun b ob e => ?_⟩
  · rcases List.mem_append.mp hp with hp | hp
    · refine rwg (Store.other _ _ fun e => n4 p.1 (List.mem_map_of_mem hp) a (.head _) e) ?_
      exact H.at_ p (List.mem_append_left _ hp)
    · rcases List.mem_cons.mp hp with rfl | hp
      · exact Store.self ..
      · have hm : p.1 ∈ ds.map (·.1) := List.mem_map_of_mem hp
        rw [Store.other _ _ fun e => n2 (by rw [e] at hm; exact hm)]
        exact H.at_ p (List.mem_append_right _ (.tail _ hp))
  · rcases List.mem_append.mp hp with hp | hp
    · exact H.off p (List.mem_append_left _ hp)
    · rcases List.mem_cons.mp hp with rfl | hp
      · exact ha
      · exact H.off p (List.mem_append_right _ (.tail _ hp))
  · rw [Store.other _ _ fun q => by rw [q, ha] at e; cases e]
    exact H.rest _ _ e
theorem Has.sets (H : Has R σ cs) (i : Nat) (e : cs[i]? = some (a, o)) (o' : O) : Has R (σ.set a o') (cs.set i (a, o')) := by
  obtain ⟨hi, e'⟩ := List.getElem?_eq_some_iff.mp e
  have e1 : cs = cs.take i ++ (a, o) :: cs.drop (i + 1) := by rw [← e', List.getElem_cons_drop, List.take_append_drop]
  have := (e1 ▸ H : Has R σ (cs.take i ++ (a, o) :: cs.drop (i + 1))).set o'
  rwa [List.set_eq_take_append_cons_drop, if_pos hi]
theorem Has.new (H : Has R σ cs) (h : σ a = none) (o : O) : Has R (σ.set a o) ((a, o) :: cs) := by
  have ne : ∀ p ∈ cs, p.1 ≠ a := fun p hp e => by have := H.at_ p hp; rw [e, h] at this; cases this
  have hR : R a = none := by
    cases q : R a with
    | none => rfl
    | some ob => have := H.rest _ _ q; rw [h] at this; cases this
  refine ⟨List.nodup_cons.mpr ⟨fun hm => ?_, H.nd⟩, fun p hp => ?_, fun p hp => ?_, fun b ob e => ?_⟩
  · obtain ⟨p, hp, e⟩ := List.mem_map.mp hm
    exact ne p hp e
  · rcases List.mem_cons.mp hp with rfl | hp
    · exact Store.self ..
    · rw [Store.other _ _ (ne p hp)]; exact H.at_ p hp
  · rcases List.mem_cons.mp hp with rfl | hp
    · exact hR
    · exact H.off p hp
  · rw [Store.other _ _ fun q => by rw [q, hR] at e; cases e]
    exact H.rest _ _ e
theorem Has.perm (H : Has R σ cs) (p : cs.Perm ds) : Has R σ ds :=
  ⟨(p.map _).nodup_iff.mp H.nd, fun q hq => H.at_ q (p.mem_iff.mpr hq), fun q hq => H.off q (p.mem_iff.mpr hq), H.rest⟩
theorem Has.drop (H : Has R σ (cs ++ ds)) : Has R σ cs :=
  ⟨by have := H.nd; rw [List.map_append, List.nodup_append] at this; exact this.1, fun q hq => H.at_ q (List.mem_append_left _ hq), fun q hq => H.off q (List.mem_append_left _ hq), H.rest⟩
theorem Has.lessR {R' : Store} (H : Has R σ cs) (l : Less R' R) : Has R' σ cs :=
  ⟨H.nd, H.at_, fun p hp => (by
    cases q : R' p.1 with
    | none => rfl
    | some ob => have := l _ _ q; rw [H.off p hp] at this; cases this), fun a o e => H.rest _ _ (l _ _ e)⟩
theorem Has.setR (H : Has R σ cs) (e : R a = some o) (o' : O) : Has (R.set a o') (σ.set a o') cs := by
  have ne : ∀ p ∈ cs, p.1 ≠ a := fun p hp q => by have := H.off p hp; rw [q, e] at this; cases this
  refine ⟨H.nd, fun p hp => by rw [Store.other _ _ (ne p hp)]; exact H.at_ p hp, fun p hp => by rw [Store.other _ _ (ne p hp)]; exact H.off p hp, fun b ob q => ?_⟩
  by_cases hb : b = a
  · rw [hb, Store.self] at q ⊢; exact q
  · rw [Store.other _ _ hb] at q ⊢; exact H.rest _ _ q
theorem Has.toR (H : Has R σ ((a, o) :: cs)) : Has (R.set a o) σ cs := by
  have nd := H.nd
  rw [List.map_cons, List.nodup_cons] at nd
  refine ⟨nd.2, fun p hp => H.at_ p (.tail _ hp), fun p hp => ?_, fun b ob q => ?_⟩
  · have hm : p.1 ∈ cs.map (·.1) := List.mem_map_of_mem hp
    rw [Store.other _ _ fun e => nd.1 (by rw [e] at hm; exact hm)]; exact H.off p (.tail _ hp)
  · by_cases hb : b = a
    · rw [hb, Store.self] at q; rw [hb, ← q]; exact H.at_ _ (.head _)
    · rw [Store.other _ _ hb] at q; exact H.rest _ _ q
theorem pick_mem {L : List (Addr × O)} {is : List Nat} : ∀ {L' : List (Addr × O)}, L'.map some = is.map (L[·]?) → ∀ p ∈ L', ∃ i ∈ is, L[i]? = some p := by
  induction is with
  | nil => intro L' e p hp; rw [List.map_eq_nil_iff.mp e] at hp; exact (List.not_mem_nil hp).elim
  | cons i is ih =>
    intro L' e p hp
    cases L' with
    | nil => cases hp
    | cons x L' =>
      rw [List.map_cons, List.map_cons, List.cons.injEq] at e
      rcases List.mem_cons.mp hp with rfl | hp
      · exact ⟨i, .head _, e.1.symm⟩
      · exact (ih e.2 p hp).imp fun j h => ⟨.tail _ h.1, h.2⟩
theorem pick_nodup {L : List (Addr × O)} (hL : (L.map (·.1)).Nodup) {is : List Nat} : ∀ {L' : List (Addr × O)}, is.Nodup → L'.map some = is.map (L[·]?) → (L'.map (·.1)).Nodup := by
  induction is with
  | nil => intro L' _ e; rw [List.map_eq_nil_iff.mp e]; exact .nil
  | cons i is ih =>
    intro L' hn e
    cases L' with
    | nil => exact .nil
    | cons x L' =>
      rw [List.nodup_cons] at hn
      rw [List.map_cons, List.map_cons, List.cons.injEq] at e
      rw [List.map_cons, List.nodup_cons]
      refine ⟨fun hm => ?_, ih hn.2 e.2⟩
      obtain ⟨y, hy, q⟩ := List.mem_map.mp hm
      obtain ⟨j, hj, ej⟩ := pick_mem e.2 y hy
      have ei := e.1
      have hi : i < (L.map (·.1)).length := by rw [List.length_map]; exact (List.getElem?_eq_some_iff.mp ei.symm).1
      have : i = j := (List.getElem?_inj hi hL).mp (by rw [List.getElem?_map, List.getElem?_map, ← ei, ej, Option.map_some, Option.map_some, q])
      exact hn.1 (this ▸ hj)
theorem Has.pick {L : List (Addr × O)} (H : Has R σ (L ++ cs)) (is : List Nat) (hn : is.Nodup) (L' : List (Addr × O)) (e : L'.map some = is.map (L[·]?)) : Has R σ (L' ++ cs) := by
  have sub : ∀ p ∈ L' ++ cs, p ∈ L ++ cs := fun p hp => by
    rcases List.mem_append.mp hp with hp | hp
    · obtain ⟨i, _, q⟩ := pick_mem e p hp
      exact List.mem_append_left _ (List.mem_of_getElem? q)
    · exact List.mem_append_right _ hp
  have nd := H.nd
  rw [List.map_append, List.nodup_append] at nd
  refine ⟨?_, fun p hp => H.at_ p (sub p hp), fun p hp => H.off p (sub p hp), H.rest⟩
  rw [List.map_append, List.nodup_append]
  refine ⟨pick_nodup nd.1 hn e, nd.2.1, fun a ha b hb => ?_⟩
  obtain ⟨p, hp, rfl⟩ := List.mem_map.mp ha
  obtain ⟨i, _, q⟩ := pick_mem e p hp
  exact nd.2.2 _ (List.mem_map_of_mem (List.mem_of_getElem? q)) b hb
end
theorem Less.refl (σ : Store) : Less σ σ := fun u_ u_ h => h
section
variable {call : CallT} {ρ : Loc} {σ R : Store} {cs : List (Addr × O)} {X : Store → Prop} {n : String}
theorem e_attr {c : Cls} {fs : List (String × V)} {r : Addr} {v : V} {K : V → Prop} (hr : σ r = some (.inst c fs)) (hf : getF fs n = some v) (hb : notBi v = true) (k : K v) : wAttr σ (.ref r) n K := ⟨v, .mk r c fs n v hr hf hb, k⟩
theorem e_xattr {i : Nat} {c : Cls} {fs : List (String × V)} {r : Addr} {v : V} {K : V → Store → Prop} (hi : ρ[i]? = some (some (.ref r))) (hr : σ r = some (.inst c fs)) (hf : getF fs n = some v) (hb : notBi v = true) (k : K v σ) :
    wE call (.attr (.x i) n) ρ σ K X := locP_i hi ⟨v, .mk r c fs n v hr hf hb, k⟩
theorem e_x {i : Nat} {v : V} {K : V → Store → Prop} (hi : ρ[i]? = some (some v)) (k : K v σ) : wE call (.x i) ρ σ K X := locP_i hi k
theorem e_c {v : V} {K : V → Store → Prop} (k : K v σ) : wE call (.c v) ρ σ K X := k
theorem e_g {K : V → Store → Prop} (v : V) (e : gval n = v) (k : K v σ) : wE call (.g n) ρ σ K X := by subst e; exact k
theorem e_bin {op : Operator} {a b : E} {K : V → Store → Prop} (k : wE call a ρ σ (fun va σ => wE call b ρ σ (fun vb σ => wBin op va vb fun v => K v σ) X) X) : wE call (.bin op a b) ρ σ K X := k
theorem es_nil' {K : List V → Store → Prop} (k : K [] σ) : wEs call [] ρ σ K X := k
theorem es_cons' {e : E} {es : List E} {K : List V → Store → Prop} (k : wE call e ρ σ (fun v σ => wEs call es ρ σ (fun vs σ => K (v :: vs) σ) X) X) : wEs call (e :: es) ρ σ K X := k
theorem e_call {f : E} {es : List E} {K : V → Store → Prop} (k : wE call f ρ σ (fun vf σ => wEs call es ρ σ (fun vs σ => wApp call vf vs σ K X) X) X) : wE call (.call f es) ρ σ K X := k
theorem e_meth {o : E} {es : List E} {K : V → Store → Prop} (k : wE call o ρ σ (fun vo σ => selOf σ vo n fun s => wEs call es ρ σ (fun vs σ => wSel call s vo vs σ K X) X) X) : wE call (.meth o n es) ρ σ K X := k
theorem e_sel {c : Cls} {fs : List (String × V)} {r : Addr} {K : Sel → Prop} (f : Fn) (hr : σ r = some (.inst c fs)) (hm : methOf c n = some f) (hf : getF fs n = none) (k : K (.fn f)) : selOf σ (.ref r) n K := ⟨_, .fn r c fs n f hr hm hf, k⟩
theorem w_cons {s : S} {r : List S} {Q : Fl → Loc → Store → Prop} {X : Loc → Store → Prop} (k : wS call s ρ σ (fun fl ρ σ => match fl with | .next => wSs call r ρ σ Q X | fl => Q fl ρ σ) X) : wSs call (s :: r) ρ σ Q X := k
theorem s_expr' {e : E} {Q : Fl → Loc → Store → Prop} {X : Loc → Store → Prop} (k : wE call e ρ σ (fun v σ => plainV v ∧ Q .next ρ σ) (X ρ)) : wS call (.expr e) ρ σ Q X := k
theorem s_asg' {t : T} {e : E} {Q : Fl → Loc → Store → Prop} {X : Loc → Store → Prop} (k : wE call e ρ σ (fun v σ => wTgt call t v ρ σ (fun ρ σ => Q .next ρ σ) (X ρ)) (X ρ)) : wS call (.asg t e) ρ σ Q X := k
theorem s_ret' {e : E} {Q : Fl → Loc → Store → Prop} {X : Loc → Store → Prop} (k : wE call e ρ σ (fun v σ => Q (.ret v) ρ σ) (X ρ)) : wS call (.ret (some e)) ρ σ Q X := k
theorem s_if' {t : E} {a b : List S} {Q : Fl → Loc → Store → Prop} {X : Loc → Store → Prop} (k : wT call t ρ σ (fun r σ => match r with | true => wSs call a ρ σ Q X | false => wSs call b ρ σ Q X) (X ρ)) : wS call (.ifs t a b) ρ σ Q X := k
theorem t_x {i : Nat} {v : V} {K : Loc → Store → Prop} (hi : i < ρ.length) (k : K (ρ.set i (some v)) σ) : wTgt call (.x i) v ρ σ K X := ⟨hi, k⟩
theorem t_attr {o : E} {v : V} {K : Loc → Store → Prop} (k : wE call o ρ σ (fun vo σ => wSetAttr σ vo n v fun σ => K ρ σ) X) : wTgt call (.attr o n) v ρ σ K X := k
theorem t_xattr {i : Nat} {c : Cls} {fs : List (String × V)} {r : Addr} {v : V} {K : Loc → Store → Prop} (hi : ρ[i]? = some (some (.ref r))) (hr : σ r = some (.inst c fs)) (hl : fs.length ≤ 100) (k : K ρ (σ.set r (.inst c (putF fs n v)))) :
    wTgt call (.attr (.x i) n) v ρ σ K X := locP_i hi ⟨_, .mk r c fs n v hr hl, k⟩
theorem loop_inv {ok : Store → Prop} {turn : V → TrS} {vs : List V} {Q : Fl → Loc → Store → Prop} {X : Loc → Store → Prop} (I : Nat → Loc → Store → Prop) (hok : ∀ i ρ σ, I i ρ σ → ok σ)
    (step : ∀ i v ρ σ (K : Fl → Loc → Store → Prop), vs[i]? = some v → I i ρ σ → (∀ ρ σ, I (i + 1) ρ σ → K .next ρ σ) → (∀ ρ σ, I (i + 1) ρ σ → K .cont ρ σ) → (∀ r ρ σ, Q (.ret r) ρ σ → K (.ret r) ρ σ) → turn v ρ σ K X)
    (fin : ∀ ρ σ, I vs.length ρ σ → Q .next ρ σ) (h0 : I 0 ρ σ) : wLoop ok turn vs ρ σ Q X := by
  have main : ∀ n i ρ σ, n = vs.length - i → i ≤ vs.length → I i ρ σ → wLoop ok turn (vs.drop i) ρ σ Q X := fun n => by
    induction n with
    | zero =>
      intro i ρ σ hn hi h
      refine rwg (List.drop_eq_nil_of_le (by lia)) ?_
      have : i = vs.length := by lia
      subst this
      exact ⟨hok _ _ _ h, fin _ _ h⟩
    | succ n ih =>
      intro i ρ σ hn hi h
      have hlt : i < vs.length := by lia
      refine rwg (List.drop_eq_getElem_cons hlt) ?_
      exact ⟨hok _ _ _ h, step i vs[i] ρ σ _ (List.getElem?_eq_getElem hlt) h (fun ρ σ h' => ih (i + 1) ρ σ (by lia) hlt h') (fun ρ σ h' => ih (i + 1) ρ σ (by lia) hlt h') fun r ρ σ hq => hq⟩
  exact main _ 0 ρ σ rfl (Nat.zero_le _) h0
theorem call_of {f : Fn} {args : List V} {Q : V → Store → Prop} {m : Nat} {X : Store → Prop} (hl : ((tab f).full args).length = (tab f).params) (k : wSs (wCall tab m) (tab f).body ((tab f).start ((tab f).full args)) σ (fun fl u_ σ => wRet fl σ Q) fun u_ σ => wLess σ X) : wCall tab (m + 1) f args σ Q X := ⟨hl, k⟩
theorem ret_of {v : V} {Q : V → Store → Prop} (k : Q v σ) : wRet (.ret v) σ Q := ⟨σ, Less.refl σ, k⟩
theorem ret_none {Q : V → Store → Prop} (k : Q .none σ) : wRet .next σ Q := ⟨σ, Less.refl σ, k⟩
theorem x_of {X : Store → Prop} (k : X σ) : wLess σ X := ⟨σ, Less.refl σ, k⟩
end
end Mine
end
section
namespace Mine
abbrev Bs := List UInt8
noncomputable def crashV : Option Int → V
  | none => .none
  | some c => .int c
noncomputable def dO (fd sh lk : Addr) (s : Int) (c : Option Int) : O :=
  .inst .disk [("sector", .int 8), ("room", .none), ("files", .ref fd), ("steps", .int s), ("crash_at", crashV c), ("shared", .ref sh), ("locks", .ref lk)]
noncomputable def fO (d : Addr) (nm : String) (sy : Bs) (pa na : Addr) : O :=
  .inst .file [("disk", .ref d), ("name", .str nm), ("synced", .bytes sy), ("pending", .ref pa), ("now", .ref na)]
set_option genCtorIdx true in
inductive Op where
  | w (at_ : Nat) (b : Bs)
  | t (n : Nat)
noncomputable def Op.v : Op → V
  | .w i b => .tup [.str "write", .int i, .bytes b]
  | .t n => .tup [.str "truncate", .int n, .bytes []]
noncomputable def put (b : Bs) (i : Nat) (c : Bs) : Bs := (b ++ List.replicate (i - b.length) 0).take i ++ c ++ (b ++ List.replicate (i - b.length) 0).drop (i + c.length)
theorem put_len (b : Bs) (i : Nat) (c : Bs) : (put b i c).length = max b.length (i + c.length) := by
  unfold put
  simp only [List.length_append, List.length_take, List.length_drop, List.length_replicate]
  rw [show b.length + (i - b.length) = max i b.length by rw [Nat.add_comm, Nat.sub_add_eq_max], Nat.min_eq_left (Nat.le_max_left ..), Nat.add_comm, Nat.sub_add_eq_max]
  rcases Nat.le_total i b.length with h | h
  · rw [Nat.max_eq_right h]
  · rw [Nat.max_eq_left h, Nat.max_eq_right (Nat.le_add_right ..), Nat.max_eq_right (Nat.le_trans h (Nat.le_add_right ..))]
noncomputable def cutTo (b : Bs) (n : Nat) : Bs := if n < b.length then b.take n else b ++ List.replicate (n - b.length) 0
theorem Store.set_set (σ : Store) (a : Addr) (o o' : O) : (σ.set a o).set a o' = σ.set a o' := by
  funext b; unfold Store.set; split <;> rfl
theorem Store.same {σ : Store} {a : Addr} {o : O} (h : σ a = some o) : σ.set a o = σ := by
  funext x; unfold Store.set; split
  · rename_i e; rw [e, h]
  · rfl
section
variable {σ : Store} {d fd sh lk fa pa na : Addr} {s : Int} {c : Option Int} {Q : V → Store → Prop} {X : Store → Prop} {m : Nat} {nm : String} {sy b : Bs}
theorem c_step (h : σ d = some (dO fd sh lk s c)) (hQ : (∀ k, c = some k → s + 1 < k) → Q .none (σ.set d (dO fd sh lk (s + 1) c))) (hX : ∀ k, c = some k → k ≤ s + 1 → X σ) : wCall tab (m + 1) .dStep [.ref d] σ Q X := by
  refine call_of rfl ?_
  have aug : (∀ k, c = some k → s + 1 < k) → wSs (wCall tab m) [.augA (.x 0) "steps" .Add (.c (.int 1))] [some (.ref d)] σ (fun fl u_ σ => wRet fl σ Q) fun u_ σ => wLess σ X := fun hk =>
    ⟨_, .mk _ _ _ _ _ h rfl rfl, _, .mk _ _ _ _ _ h (Nat.le_of_ble_eq_true rfl), ret_none (hQ hk)⟩
  cases c with
  | none => exact ⟨_, .mk _ _ _ _ _ h rfl rfl, _, .isNot _, aug no_some⟩
  | some k =>
    refine ⟨_, .mk _ _ _ _ _ h rfl rfl, _, .isNot _, _, .mk _ _ _ _ _ h rfl rfl, _, .addI _ _, _, .mk _ _ _ _ _ h rfl rfl, _, .ge _ _, ?_⟩
    by_cases q : k ≤ s + 1
    · rw [decide_eq_true q]; exact ⟨rfl, x_of (hX k rfl q)⟩
    · rw [decide_eq_false q]; exact aug fun k' e => by cases e; lia
theorem c_size (hf : σ fa = some (fO d nm sy pa na)) (hn : σ na = some (.ba b)) (hl : b.length ≤ 1000000) (k : Q (.int b.length) σ) : wCall tab (m + 1) .fSize [.ref fa] σ Q X :=
  call_of rfl ⟨_, .mk _ _ _ _ _ hf rfl rfl, _, .lenA _ _ hn hl, ret_of k⟩
theorem c_room {v w : V} (h : σ d = some (dO fd sh lk s c)) (k : Q .none σ) : wCall tab (m + 1) .dCheckRoom [.ref d, v, w] σ Q X :=
  call_of rfl ⟨_, .mk _ _ _ _ _ h rfl rfl, _, .is _, ret_of k⟩
theorem c_put {i : Nat} {a : Addr} {x : Bs} (h : σ a = some (.ba b)) (hl : b.length ≤ 100000 ∧ i ≤ 100000 ∧ x.length ≤ 100000) (k : Q .none (σ.set a (.ba (put b i x)))) : wCall tab (m + 1) .putOctets [.ref a, .int i, .bytes x] σ Q X := by
  obtain ⟨h1, h2, h3⟩ := hl
  refine call_of rfl ⟨_, .lenA _ _ h (by exact Nat.le_trans (by assumption) (Nat.le_of_ble_eq_true rfl)), _, .gt _ _, ?_⟩
  have fin : ∀ (σ' : Store) (b' : Bs), σ' a = some (.ba b') → b' = b ++ List.replicate (i - b.length) 0 → (∀ o, σ'.set a o = σ.set a o) → 
      wSs (wCall tab m) [.asg (.slice (.x 0) (.x 1) (.bin .Add (.x 1) (.call (.g "len") [(.x 2)]))) (.x 2)] [some (.ref a), some (.int i), some (.bytes x)] σ' (fun fl u_ σ => wRet fl σ Q) fun u_ σ => wLess σ X := fun σ' b' hb e es => by
    subst e
    refine ⟨_, .lenB _ (by exact Nat.le_trans (by assumption) (Nat.le_of_ble_eq_true rfl)), _, .addI _ _, _, .ba _ _ _ _ _ hb ?_, ret_none ?_⟩
    · rw [List.length_append, List.length_replicate]
      exact ⟨Int.natCast_nonneg _, Int.le_add_of_nonneg_right (Int.natCast_nonneg _), Int.ofNat_le.mpr (Nat.le_trans (Nat.add_le_add h2 h3) (Nat.le_of_ble_eq_true rfl)), Int.ofNat_le.mpr (Nat.sub_le_iff_le_add'.mp (Nat.le_refl _)),
        Nat.le_trans (Nat.add_le_add h1 (Nat.le_trans (Nat.sub_le _ _) h2)) (Nat.le_of_ble_eq_true rfl), Nat.le_trans h3 (Nat.le_of_ble_eq_true rfl)⟩
    · rw [es]; exact k
  by_cases q : (b.length : Int) < i
  · rw [decide_eq_true q]
    refine ⟨_, .extend _ _ h, _, .lenA _ _ h (by exact Nat.le_trans (by assumption) (Nat.le_of_ble_eq_true rfl)), _, .subI _ _, _, .bytesI _ (by lia), _, .extend _ _ _ h (by simp; lia), trivial, fin _ _ (Store.self ..) ?_ fun o => Store.set_set ..⟩
    rw [Int.toNat_sub]
  · refine rwg (decide_eq_false q) ?_
    exact fin σ b h (by rw [Nat.sub_eq_zero_of_le (Int.ofNat_le.mp (Int.not_lt.mp q))]; exact (List.append_nil b).symm) fun u_ => rfl
theorem c_cut {n : Nat} {a : Addr} (h : σ a = some (.ba b)) (hl : b.length ≤ 100000 ∧ n ≤ 100000) (k : Q .none (σ.set a (.ba (cutTo b n)))) : wCall tab (m + 1) .cutOctets [.ref a, .int n] σ Q X := by
  obtain ⟨h1, h2⟩ := hl
  unfold cutTo at k
  refine call_of rfl ⟨_, .lenA _ _ h (by exact Nat.le_trans (by assumption) (Nat.le_of_ble_eq_true rfl)), _, .lt _ _, ?_⟩
  by_cases q : (n : Int) < b.length
  · refine rwg (decide_eq_true q) ?_
    rw [if_pos (Int.ofNat_lt.mp q)] at k
    exact ⟨_, .ba _ _ _ h (by lia), ret_none k⟩
  · refine rwg (decide_eq_false q) ?_
    rw [if_neg fun w => q (Int.ofNat_lt.mpr w)] at k
    refine ⟨_, .lenA _ _ h (by exact Nat.le_trans (by assumption) (Nat.le_of_ble_eq_true rfl)), _, .gt _ _, ?_⟩
    by_cases q' : (b.length : Int) < n
    · refine rwg (decide_eq_true q') ?_
      refine ⟨_, .extend _ _ h, _, .lenA _ _ h (by exact Nat.le_trans (by assumption) (Nat.le_of_ble_eq_true rfl)), _, .subI _ _, _, .bytesI _ (by lia), _, .extend _ _ _ h (by simp; lia), trivial, ret_none ?_⟩
      refine rwg (Int.toNat_sub n b.length) ?_
      exact k
    · refine rwg (decide_eq_false q') ?_
      rw [Nat.sub_eq_zero_of_le (Int.ofNat_le.mp (Int.not_lt.mp q')), List.replicate_zero, List.append_nil, Store.same h] at k
      exact ret_none k
theorem c_read {i n : Nat} (hf : σ fa = some (fO d nm sy pa na)) (hn : σ na = some (.ba b)) (hl : b.length ≤ 1000000) (k : Q (.bytes (sl b (some i) (some (i + n : Int)))) σ) : wCall tab (m + 1) .fRead [.ref fa, .int i, .int n] σ Q X := by
  refine call_of rfl ⟨_, .mk _ _ _ _ _ hf rfl rfl, _, .addI _ _, _, .ba _ _ hn hl, fun a ha => ⟨_, .bytesA _ _ (Store.self ..) ?_, σ, fun x o e => ?_, k⟩⟩
  · unfold sl; rw [List.length_take, List.length_drop]; exact Nat.le_trans (Nat.min_le_right _ _) (Nat.le_trans (Nat.sub_le _ _) hl)
  · rw [Store.other _ _ fun q => by rw [q, ha] at e; cases e]; exact e
noncomputable def fCells (d fd sh lk : Addr) (s : Int) (c : Option Int) (nm : String) (sy : Bs) (fa pa na : Addr) (ps : List Op) (b : Bs) : List (Addr × O) :=
  [(d, dO fd sh lk s c), (fa, fO d nm sy pa na), (pa, .list (ps.map Op.v)), (na, .ba b)]
theorem c_write {R : Store} {cs : List (Addr × O)} {ps : List Op} {i : Nat} {x : Bs} (H : Has R σ (fCells d fd sh lk s c nm sy fa pa na ps b ++ cs)) (hl : b.length ≤ 100000 ∧ i ≤ 100000 ∧ x.length ≤ 100000 ∧ ps.length ≤ 1000)
    (hQ : ∀ σ', (∀ k, c = some k → s + 1 < k) → Has R σ' (fCells d fd sh lk (s + 1) c nm sy fa pa na (ps ++ [.w i x]) (put b i x) ++ cs) → Q .none σ') (hX : ∀ k, c = some k → k ≤ s + 1 → X σ) : wCall tab (m + 2) .fWrite [.ref fa, .int i, .bytes x] σ Q X := by
  have h0 := H.get 0 rfl
  have h1 := H.get 1 rfl
  refine call_of rfl ⟨_, .mk _ _ _ _ _ h1 rfl rfl, _, .fn _ _ _ _ _ h0 rfl rfl, _, .lenB _ (by lia), _, .addI _ _, c_room h0 ⟨trivial, _, .mk _ _ _ _ _ h1 rfl rfl, _, .fn _ _ _ _ _ h0 rfl rfl, c_step h0 (fun hk => ⟨trivial, ?_⟩) fun k e l => x_of (hX k e l)⟩⟩
  have H1 := H.sets 0 rfl (dO fd sh lk (s + 1) c)
  have H2 := H1.sets 2 rfl (.list (ps.map Op.v ++ [Op.v (.w i x)]))
  refine ⟨_, .mk _ _ _ _ _ (H1.get 1 rfl) rfl rfl, _, .append _ _ (H1.get 2 rfl), _, .bytesB _, Nat.le_of_ble_eq_true rfl, _, .append _ _ _ (H1.get 2 rfl) (by simp; lia), trivial, ?_⟩
  refine ⟨_, .mk _ _ _ _ _ (H2.get 1 rfl) rfl rfl, c_put (H2.get 3 rfl) ⟨hl.1, hl.2.1, hl.2.2.1⟩ ⟨trivial, ret_none (hQ _ hk ?_)⟩⟩
  rw [fCells, List.map_append]
  exact H2.sets 3 rfl (.ba (put b i x))
theorem c_trunc {R : Store} {cs : List (Addr × O)} {ps : List Op} {n : Nat} (H : Has R σ (fCells d fd sh lk s c nm sy fa pa na ps b ++ cs)) (hl : b.length ≤ 100000 ∧ n ≤ 100000 ∧ ps.length ≤ 1000)
    (hQ : ∀ σ', (∀ k, c = some k → s + 1 < k) → Has R σ' (fCells d fd sh lk (s + 1) c nm sy fa pa na (ps ++ [.t n]) (cutTo b n) ++ cs) → Q .none σ') (hX : ∀ k, c = some k → k ≤ s + 1 → X σ) : wCall tab (m + 2) .fTruncate [.ref fa, .int n] σ Q X := by
  have h0 := H.get 0 rfl
  have h1 := H.get 1 rfl
  refine call_of rfl ⟨_, .mk _ _ _ _ _ h1 rfl rfl, _, .fn _ _ _ _ _ h0 rfl rfl, c_room h0 ⟨trivial, _, .mk _ _ _ _ _ h1 rfl rfl, _, .fn _ _ _ _ _ h0 rfl rfl, c_step h0 (fun hk => ⟨trivial, ?_⟩) fun k e l => x_of (hX k e l)⟩⟩
  have H1 := H.sets 0 rfl (dO fd sh lk (s + 1) c)
  have H2 := H1.sets 2 rfl (.list (ps.map Op.v ++ [Op.v (.t n)]))
  refine ⟨_, .mk _ _ _ _ _ (H1.get 1 rfl) rfl rfl, _, .append _ _ (H1.get 2 rfl), Nat.le_of_ble_eq_true rfl, _, .append _ _ _ (H1.get 2 rfl) (by simp; exact Nat.le_trans (And.right (And.right (by assumption))) (Nat.le_of_ble_eq_true rfl)), trivial, ?_⟩
  refine ⟨_, .mk _ _ _ _ _ (H2.get 1 rfl) rfl rfl, c_cut (H2.get 3 rfl) ⟨hl.1, hl.2.1⟩ ⟨trivial, ret_none (hQ _ hk ?_)⟩⟩
  rw [fCells, List.map_append]
  exact H2.sets 3 rfl (.ba (cutTo b n))
theorem c_sync {R : Store} {cs : List (Addr × O)} {ps : List Op} (H : Has R σ (fCells d fd sh lk s c nm sy fa pa na ps b ++ cs)) (hl : b.length ≤ 100000)
    (hQ : ∀ σ' pa', (∀ k, c = some k → s + 1 < k) → Has R σ' (fCells d fd sh lk (s + 1) c nm b fa pa' na [] b ++ cs) → Q .none σ') (hX : ∀ k, c = some k → k ≤ s + 1 → X σ) : wCall tab (m + 2) .fSync [.ref fa] σ Q X := by
  have h0 := H.get 0 rfl
  have h1 := H.get 1 rfl
  refine call_of rfl ⟨_, .mk _ _ _ _ _ h1 rfl rfl, _, .fn _ _ _ _ _ h0 rfl rfl, c_step h0 (fun hk => ⟨trivial, ?_⟩) fun k e l => x_of (hX k e l)⟩
  have H1 := H.sets 0 rfl (dO fd sh lk (s + 1) c)
  refine ⟨_, .mk _ _ _ _ _ (H1.get 1 rfl) rfl rfl, _, .bytesA _ _ (H1.get 3 rfl) (by exact Nat.le_trans (by assumption) (Nat.le_of_ble_eq_true rfl)), _, .mk _ _ _ _ _ (H1.get 1 rfl) (Nat.le_of_ble_eq_true rfl), Nat.le_of_ble_eq_true rfl, fun pa' hp => ?_⟩
  have H2 := H1.sets 1 rfl (fO d nm b pa na)
  have H3 := H2.new hp (.list [])
  refine ⟨_, .mk _ _ _ _ _ (H3.get 2 rfl) (Nat.le_of_ble_eq_true rfl), ret_none (hQ _ pa' hk ?_)⟩
  have H4 := H3.sets 2 rfl (fO d nm b pa' na)
  exact H4.pick (L := [_, _, _, _, _]) [1, 2, 0, 4] (by decide) _ rfl
end
end Mine
end
section
namespace Mine
structure AF where
  synced : Bs
  pend : List Op
  now : Bs
structure AD where
  db : AF
  jr : Option AF
  st : Int
  cr : Option Int
noncomputable def AF.write (f : AF) (i : Nat) (x : Bs) : AF := ⟨f.synced, f.pend ++ [.w i x], put f.now i x⟩
noncomputable def AF.trunc (f : AF) (n : Nat) : AF := ⟨f.synced, f.pend ++ [.t n], cutTo f.now n⟩
noncomputable def AF.sync (f : AF) : AF := ⟨f.now, [], f.now⟩
noncomputable def AF.new : AF := ⟨[], [], []⟩
structure AF.Small (f : AF) : Prop where
  now : f.now.length ≤ 10000
  pend : f.pend.length ≤ 100
noncomputable def jCells (d fb fd fj pj nj : Addr) : Option AF → List (Addr × O)
  | none => [(fd, .dict [("db", .ref fb)])]
  | some j => [(fd, .dict [("db", .ref fb), ("db-journal", .ref fj)]), (fj, fO d "db-journal" j.synced pj nj), (pj, .list (j.pend.map Op.v)), (nj, .ba j.now)]
noncomputable def DiskAt (R σ : Store) (d fb fj : Addr) (D : AD) : Prop :=
  ∃ fd sh lk pb nb pj nj, Has R σ (fCells d fd sh lk D.st D.cr "db" D.db.synced fb pb nb D.db.pend D.db.now ++ jCells d fb fd fj pj nj D.jr)
noncomputable def Focus (R σ : Store) (d fa : Addr) (nm : String) (f : AF) (st : Int) (cr : Option Int) (P : AF → Int → Store → Prop) : Prop :=
  ∃ fd sh lk pa na cs, Has R σ (fCells d fd sh lk st cr nm f.synced fa pa na f.pend f.now ++ cs) ∧ ∀ σ' s' f' pa', Has R σ' (fCells d fd sh lk s' cr nm f'.synced fa pa' na f'.pend f'.now ++ cs) → P f' s' σ'
section
variable {R σ : Store} {d fa fb fj : Addr} {D : AD} {Q : V → Store → Prop} {X : Store → Prop} {m : Nat} {nm : String} {f j : AF} {st : Int} {cr : Option Int} {P : AF → Int → Store → Prop} {cs : List (Addr × O)}
noncomputable def fieldsOf : O → List (String × V)
  | .inst _ fs => fs
  | _ => []
theorem Focus.sel {P : AF → Int → Store → Prop} {f : AF} {st : Int} {cr : Option Int} {n : String} {g : Fn} (F : Focus R σ d fa nm f st cr P) (hm : methOf .file n = some g) (hf : ∀ d nm sy pa na, getF (fieldsOf (fO d nm sy pa na)) n = none) : SelOf σ (.ref fa) n (.fn g) := by
  obtain ⟨_, _, _, _, _, _, G, _⟩ := F
  exact .fn fa .file _ n g (G.get 1 rfl) hm (hf ..)
theorem focusB (H : DiskAt R σ d fb fj D) : Focus R σ d fb "db" D.db D.st D.cr fun f' s' σ' => DiskAt R σ' d fb fj ⟨f', D.jr, s', D.cr⟩ := by
  refine foldg fun G0 fin0 => ?_
  obtain ⟨fd, sh, lk, pb, nb, pj, nj, H⟩ := H
  refine fin0 ?_
  exact ⟨_, _, _, _, _, _, H, fun σ' s' f' pa' H' => ⟨_, _, _, _, _, _, _, H'⟩⟩
theorem focusJ (H : DiskAt R σ d fb fj D) (hj : D.jr = some j) : Focus R σ d fj "db-journal" j D.st D.cr fun f' s' σ' => DiskAt R σ' d fb fj ⟨D.db, some f', s', D.cr⟩ := by
  refine foldg fun G0 fin0 => ?_
  obtain ⟨fd, sh, lk, pb, nb, pj, nj, H⟩ := H
  refine fin0 ?_
  rw [hj, ← List.append_nil (_ ++ _)] at H
  have H1 := H.pick [0, 5, 6, 7, 1, 2, 3, 4] (by decide) (fCells d fd sh lk D.st D.cr "db-journal" j.synced fj pj nj j.pend j.now ++ [_, _, _, _]) rfl
  refine ⟨fd, sh, lk, pj, nj, _, H1, fun σ' s' f' pa' H' => ⟨fd, sh, lk, pb, nb, pa', nj, ?_⟩⟩
  refine rwl (List.append_nil (_ ++ _)) ?_
  exact Has.pick (L := [_, _, _, _, _, _, _, _]) H' [0, 4, 5, 6, 7, 1, 2, 3] (by decide) _ rfl
theorem d_write (F : Focus R σ d fa nm f st cr P) (h : f.Small) {i : Nat} {x : Bs} (hl : i ≤ 10000 ∧ x.length ≤ 10000) (hQ : ∀ σ', (∀ k, cr = some k → st + 1 < k) → P (f.write i x) (st + 1) σ' → Q .none σ') (hX : ∀ k, cr = some k → k ≤ st + 1 → X σ) :
    wCall tab (m + 2) .fWrite [.ref fa, .int i, .bytes x] σ Q X := by
  refine foldg fun G0 fin0 => ?_
  obtain ⟨fd, sh, lk, pa, na, cs, H, K⟩ := F
  refine fin0 ?_
  have h1 := h.now
  have h2 := h.pend
  exact c_write H (by lia) (fun σ' hk H' => hQ σ' hk (K σ' _ (f.write i x) pa H')) hX
theorem d_trunc (F : Focus R σ d fa nm f st cr P) (h : f.Small) {n : Nat} (hl : n ≤ 10000) (hQ : ∀ σ', (∀ k, cr = some k → st + 1 < k) → P (f.trunc n) (st + 1) σ' → Q .none σ') (hX : ∀ k, cr = some k → k ≤ st + 1 → X σ) :
    wCall tab (m + 2) .fTruncate [.ref fa, .int n] σ Q X := by
  refine foldg fun G0 fin0 => ?_
  obtain ⟨fd, sh, lk, pa, na, cs, H, K⟩ := F
  refine fin0 ?_
  have h1 := h.now
  have h2 := h.pend
  exact c_trunc H (by lia) (fun σ' hk H' => hQ σ' hk (K σ' _ (f.trunc n) pa H')) hX
theorem d_sync (F : Focus R σ d fa nm f st cr P) (h : f.Small) (hQ : ∀ σ', (∀ k, cr = some k → st + 1 < k) → P f.sync (st + 1) σ' → Q .none σ') (hX : ∀ k, cr = some k → k ≤ st + 1 → X σ) : wCall tab (m + 2) .fSync [.ref fa] σ Q X := by
  refine foldg fun G0 fin0 => ?_
  obtain ⟨fd, sh, lk, pa, na, cs, H, K⟩ := F
  refine fin0 ?_
  have h1 := h.now
  exact c_sync H (by exact Nat.le_trans (by assumption) (Nat.le_of_ble_eq_true rfl)) (fun σ' pa' hk H' => hQ σ' hk (K σ' _ f.sync pa' H')) hX
theorem d_size (F : Focus R σ d fa nm f st cr P) (h : f.Small) (k : Q (.int f.now.length) σ) : wCall tab (m + 1) .fSize [.ref fa] σ Q X := by
  refine foldg fun G0 fin0 => ?_
  obtain ⟨fd, sh, lk, pa, na, cs, H, K⟩ := F
  refine fin0 ?_
  have h1 := h.now
  exact c_size (H.get 1 rfl) (H.get 3 rfl) (by exact Nat.le_trans (by assumption) (Nat.le_of_ble_eq_true rfl)) k
theorem d_read (F : Focus R σ d fa nm f st cr P) (h : f.Small) {i n : Nat} (k : Q (.bytes (sl f.now (some i) (some (i + n : Int)))) σ) : wCall tab (m + 1) .fRead [.ref fa, .int i, .int n] σ Q X := by
  refine foldg fun G0 fin0 => ?_
  obtain ⟨fd, sh, lk, pa, na, cs, H, K⟩ := F
  refine fin0 ?_
  have h1 := h.now
  exact c_read (H.get 1 rfl) (H.get 3 rfl) (by exact Nat.le_trans (by assumption) (Nat.le_of_ble_eq_true rfl)) k
theorem new_file (H : Has R σ cs) (hQ : ∀ σ' fa pa na, Has R σ' ((fa, fO d nm [] pa na) :: (pa, .list []) :: (na, .ba []) :: cs) → Q (.ref fa) σ') : wApp (wCall tab (m + 1)) (.cls .file) [.ref d, .str nm] σ Q X := by
  intro fa hfa
  have lt : ∀ n, Nat.ble n 100 = true → n ≤ 100 := fun n h => Nat.le_of_ble_eq_true h
  have H1 := H.new hfa (.inst .file [])
  refine call_of rfl ⟨_, .mk _ _ _ _ _ (H1.get 0 rfl) (lt _ rfl), ?_⟩
  have H2 := H1.sets 0 rfl (.inst .file [("disk", .ref d)])
  refine ⟨_, .mk _ _ _ _ _ (H2.get 0 rfl) (lt _ rfl), ?_⟩
  have H3 := H2.sets 0 rfl (.inst .file [("disk", .ref d), ("name", .str nm)])
  refine ⟨_, .mk _ _ _ _ _ (H3.get 0 rfl) (lt _ rfl), ?_⟩
  have H4 := H3.sets 0 rfl (.inst .file [("disk", .ref d), ("name", .str nm), ("synced", .bytes [])])
  refine ⟨lt _ rfl, fun pa hpa => ?_⟩
  have H5 := H4.new hpa (.list [])
  refine ⟨_, .mk _ _ _ _ _ (H5.get 1 rfl) (lt _ rfl), ?_⟩
  have H6 := H5.sets 1 rfl (.inst .file [("disk", .ref d), ("name", .str nm), ("synced", .bytes []), ("pending", .ref pa)])
  refine ⟨_, .ba0, fun na hna => ?_⟩
  have H7 := H6.new hna (.ba [])
  refine ⟨_, .mk _ _ _ _ _ (H7.get 2 rfl) (lt _ rfl), ?_⟩
  refine ⟨_, Less.refl _, hQ _ fa pa na ?_⟩
  have H8 := H7.sets 2 rfl (fO d nm [] pa na)
  exact H8.pick (L := [_, _, _]) [2, 1, 0] (by decide) ([_, _, _]) rfl
theorem e_new_file {ρ : Loc} {i k : Nat} (hi : ρ[i]? = some (some (.ref d))) (hk : ρ[k]? = some (some (.str nm))) (H : Has R σ cs) (hQ : ∀ σ' fa pa na, Has R σ' ((fa, fO d nm [] pa na) :: (pa, .list []) :: (na, .ba []) :: cs) → Q (.ref fa) σ') :
    wE (wCall tab (m + 1)) (.call (.g "DiskFile") [.x i, .x k]) ρ σ Q X := locP_i hi (locP_i hk (new_file H hQ))
theorem d_openB (H : DiskAt R σ d fb fj D) (k : Q (.ref fb) σ) : wCall tab (m + 1) .dOpen [.ref d, .str "db"] σ Q X := by
  refine foldg fun G0 fin0 => ?_
  obtain ⟨fd, sh, lk, pb, nb, pj, nj, H⟩ := H
  refine fin0 ?_
  have h0 := H.get 0 rfl
  have h4 : ∃ es, σ fd = some (.dict es) ∧ getF es "db" = some (.ref fb) := by
    cases hj : D.jr <;> rw [hj] at H <;> exact ⟨_, H.get 4 rfl, rfl⟩
  refine foldg fun G0 fin0 => ?_
  obtain ⟨es, h4, e⟩ := h4
  refine fin0 ?_
  refine call_of rfl ⟨_, .mk _ _ _ _ _ h0 rfl rfl, _, .notIn _ _ _ h4, ?_⟩
  refine rwg e ?_
  exact ⟨_, .mk _ _ _ _ _ h0 rfl rfl, _, .dict _ _ _ _ h4 e, ret_of k⟩
theorem d_openJ (H : DiskAt R σ d fb fj D) (hj : D.jr = some j) (k : Q (.ref fj) σ) : wCall tab (m + 1) .dOpen [.ref d, .str "db-journal"] σ Q X := by
  obtain ⟨fd, sh, lk, pb, nb, pj, nj, H⟩ := H
  rw [hj] at H
  have h0 := H.get 0 rfl
  have h4 := H.get 4 rfl
  exact call_of rfl ⟨_, .mk _ _ _ _ _ h0 rfl rfl, _, .notIn _ _ _ h4, _, .mk _ _ _ _ _ h0 rfl rfl, _, .dict _ _ _ _ h4 rfl, ret_of k⟩
theorem d_openN (H : DiskAt R σ d fb fj D) (hj : D.jr = none) (hQ : ∀ σ' fj', DiskAt R σ' d fb fj' ⟨D.db, some .new, D.st, D.cr⟩ → Q (.ref fj') σ') : wCall tab (m + 2) .dOpen [.ref d, .str "db-journal"] σ Q X := by
  refine foldg fun G0 fin0 => ?_
  obtain ⟨fd, sh, lk, pb, nb, pj, nj, H⟩ := H
  refine fin0 ?_
  rw [hj] at H
  have h0 := H.get 0 rfl
  have h4 := H.get 4 rfl
  have e : (getF [("db", V.ref fb)] "db-journal").isNone = true := rfl
  refine call_of rfl ⟨_, .mk _ _ _ _ _ h0 rfl rfl, _, .notIn _ _ _ h4, ?_⟩
  refine rwg e ?_
  refine w_cons (s_asg' (e_new_file rfl rfl H fun σ' fj' pj' nj' H' => ?_))
  have h3 := H'.get 3 rfl
  have h7 := H'.get 7 rfl
  refine ⟨_, .mk _ _ _ _ _ h3 rfl rfl, ?_⟩
  refine ⟨_, .dict _ _ _ _ h7 ⟨Nat.le_of_ble_eq_true rfl, rfl⟩, ?_⟩
  have H2 := H'.sets 7 rfl (.dict [("db", .ref fb), ("db-journal", .ref fj')])
  refine ⟨_, .mk _ _ _ _ _ (H2.get 3 rfl) rfl rfl, _, .dict _ _ _ _ (H2.get 7 rfl) rfl, ret_of (hQ _ fj' ⟨fd, sh, lk, pb, nb, pj', nj', ?_⟩)⟩
  refine rwl (List.append_nil (_ ++ _)) ?_
  exact Has.pick (L := [_, _, _, _, _, _, _, _]) (cs := []) H2 [3, 4, 5, 6, 7, 0, 1, 2] (by decide) (fCells d fd sh lk D.st D.cr "db" D.db.synced fb pb nb D.db.pend D.db.now ++ jCells d fb fd fj' pj' nj' (some .new)) rfl
theorem d_exists (H : DiskAt R σ d fb fj D) (k : Q (.bool D.jr.isSome) σ) : wCall tab (m + 1) .dExists [.ref d, .str "db-journal"] σ Q X := by
  refine foldg fun G0 fin0 => ?_
  obtain ⟨fd, sh, lk, pb, nb, pj, nj, H⟩ := H
  refine fin0 ?_
  have h0 := H.get 0 rfl
  have h4 : ∃ es, σ fd = some (.dict es) ∧ (getF es "db-journal").isSome = D.jr.isSome := by
    cases hj : D.jr <;> rw [hj] at H <;> exact ⟨_, H.get 4 rfl, rfl⟩
  refine foldg fun G0 fin0 => ?_
  obtain ⟨es, h4, e⟩ := h4
  refine fin0 ?_
  exact call_of rfl ⟨_, .mk _ _ _ _ _ h0 rfl rfl, _, .isIn _ _ _ h4, ret_of (by rw [e]; exact k)⟩
theorem d_delete (H : DiskAt R σ d fb fj D) (hj : D.jr = some j) (hQ : ∀ σ', (∀ k, D.cr = some k → D.st + 1 < k) → DiskAt R σ' d fb fj ⟨D.db, none, D.st + 1, D.cr⟩ → Q .none σ') (hX : ∀ k, D.cr = some k → k ≤ D.st + 1 → X σ) :
    wCall tab (m + 2) .dDelete [.ref d, .str "db-journal"] σ Q X := by
  obtain ⟨fd, sh, lk, pb, nb, pj, nj, H⟩ := H
  rw [hj] at H
  have h0 := H.get 0 rfl
  have h4 := H.get 4 rfl
  refine call_of rfl ⟨_, .mk _ _ _ _ _ h0 rfl rfl, _, .notIn _ _ _ h4, _, .fn _ _ _ _ _ h0 rfl rfl, c_step h0 (fun hk => ⟨trivial, ?_⟩) fun k e l => x_of (hX k e l)⟩
  have H1 := H.sets 0 rfl (dO fd sh lk (D.st + 1) D.cr)
  refine ⟨_, .mk _ _ _ _ _ (H1.get 0 rfl) rfl rfl, _, .dict _ _ _ (H1.get 4 rfl) ⟨rfl, Nat.le_of_ble_eq_true rfl⟩, ret_none (hQ _ hk ⟨fd, sh, lk, pb, nb, pj, nj, ?_⟩)⟩
  have H2 := H1.sets 4 rfl (.dict [("db", .ref fb)])
  refine rwl (List.append_nil (_ ++ _)) ?_
  exact Has.pick (L := [_, _, _, _, _, _, _, _]) (cs := []) H2 [0, 1, 2, 3, 4] (by decide) (fCells d fd sh lk (D.st + 1) D.cr "db" D.db.synced fb pb nb D.db.pend D.db.now ++ jCells d fb fd fj pj nj none) rfl
end
end Mine
end
section
namespace Mine
noncomputable def recSum (ν p : Int) (o : Bs) : Int := Int.fmod (([63, 55, 47, 39, 31, 23, 15, 7] : List Int).foldl (fun t i => t + ((o.getD i.toNat 0).toNat : Nat) * (i + 1)) (ν + p)) 4294967296
noncomputable def recB (ν p : Int) (o : Bs) : Bs := bigOf 4 p ++ o ++ bigOf 4 (recSum ν p o)
noncomputable def magic : Bs := [112, 98, 106, 111, 117, 114, 110, 108]
noncomputable def headB (c ν pc : Int) : Bs := magic ++ bigOf 4 c ++ bigOf 4 ν ++ bigOf 4 pc ++ bigOf 4 64
noncomputable def jO (d : Addr) (ν k s : Int) : O :=
  .inst .journal [("disk", .ref d), ("name", .str "db-journal"), ("page_size", .int 64), ("nonce", .int ν), ("count", .int k), ("safe", .int s)]
theorem big_len (n : Nat) (x : Int) : (bigOf n x).length = n := by unfold bigOf; simp [KTBy.little_length]
theorem recSum_range (ν p : Int) (o : Bs) : 0 ≤ recSum ν p o ∧ recSum ν p o < 4294967296 := by
  unfold recSum
  exact ⟨Int.fmod_nonneg_of_pos _ (by decide), Int.fmod_lt_of_pos _ (by decide)⟩
theorem recB_len (ν p : Int) (o : Bs) : (recB ν p o).length = o.length + 8 := by unfold recB; simp [big_len]; lia
theorem headB_len (c ν pc : Int) : (headB c ν pc).length = 24 := by unfold headB; simp [big_len, magic]
theorem mul_small {a b : Int} (h : -1000000 ≤ b ∧ b ≤ 1000000) : IntMulOk a b := .of_right (intBits_le_64 (by lia) (by lia))
section
variable {R σ : Store} {d fa fb fj j : Addr} {D : AD} {Q : V → Store → Prop} {X : Store → Prop} {m : Nat} {f : AF} {ν k s : Int} {ρ : Loc}
theorem c_pn {x : Int} (h : 0 ≤ x ∧ x < 4294967296) (q : Q (.bytes (bigOf 4 x)) σ) : wCall tab (m + 1) .putNumber [.int x, .int 4] σ Q X := by
  have e : Int.fmod x ((256 : Int) ^ (4 : Int).toNat) = x := Int.fmod_eq_of_lt h.1 (by have := h.2; simpa using this)
  refine call_of rfl ⟨_, .powI _ _ (.inr ⟨rfl, rfl⟩), _, .modI _ _ (by decide), ?_⟩
  refine rwg e ?_
  exact ⟨_, .toBytes x, _, .toBytes x h, ret_of q⟩
theorem c_gn {b : Bs} {i n : Int} (h : b.length ≤ 1000000) (hn : (sl b (some i) (some (i + n))).length ≤ 8) (q : Q (.int (ofBig (sl b (some i) (some (i + n))))) σ) : wCall tab (m + 1) .getNumber [.bytes b, .int i, .int n] σ Q X :=
  call_of rfl ⟨_, .fromBytes, _, .addI _ _, _, .bytes _ h, _, .fromBytes _ hn, ret_of q⟩
theorem c_ips {n : Int} (q : Q (.bool (decide (64 ≤ n) && decide (n ≤ 32768))) σ) : wCall tab (m + 1) .isPageSize [.int n] σ Q X := by
  refine call_of rfl ⟨_, .le _ _, ?_⟩
  by_cases h : (64 : Int) ≤ n
  · rw [decide_eq_true h] at q ⊢
    exact ⟨_, .le _ _, ret_of q⟩
  · rw [decide_eq_false h] at q ⊢
    exact ret_of q
theorem c_rs {p : Int} {o : Bs} (h : o.length = 64) (q : Q (.int (recSum ν p o)) σ) : wCall tab (m + 1) .recordSum [.int ν, .int p, .bytes o] σ Q X := by
  refine call_of rfl ⟨_, .addI _ _, Nat.le_of_ble_eq_true rfl, _, .lenB _ (by lia), _, .subI _ _, ?_⟩
  refine rwg h ?_
  refine ⟨_, .down, ?_⟩
  refine loop_inv (fun (i : Nat) ρ σ' => σ' = σ ∧ ∃ (t : Int) (x : Option V), ρ = [some (.int ν), some (.int p), some (.bytes o), some (.int t), x] ∧ t = (([63, 55, 47, 39, 31, 23, 15, 7] : List Int).take i).foldl (fun (t : Int) (i : Int) => t + ((o.getD i.toNat 0).toNat : Nat) * (i + 1)) (ν + p)) (fun u_ u_ u_ u_ => trivial) (fun i v ρ σ' K hv hI kn u_ u_ => ?_) (fun ρ σ' hI => ?_) ⟨rfl, _, _, rfl, rfl⟩
  · obtain ⟨rfl, t, x, rfl, ht⟩ := hI
    rw [List.getElem?_map] at hv
    obtain ⟨n, hn, rfl⟩ := Option.map_eq_some_iff.mp hv
    have hr : 0 ≤ n ∧ n < 64 := by
      have := List.mem_of_getElem? hn
      simp only [List.mem_cons, List.not_mem_nil, or_false] at this
      lia
    refine ⟨Nat.le_of_ble_eq_true rfl, _, .bytes _ _ ⟨hr.1, by lia, by lia⟩, _, .addI _ _, _, .mulI _ _ (mul_small (by lia)), kn _ _ ⟨rfl, _, _, rfl, ?_⟩⟩
    refine rwg List.take_add_one ?_
    refine rwg hn ?_
    refine rwg List.foldl_append ?_
    refine rwg ht ?_
    rfl
  · obtain ⟨rfl, t, x, rfl, rfl⟩ := hI
    exact ⟨_, .modI _ _ (by decide), ret_of q⟩
end
end Mine
end
section
namespace Mine
theorem sl_nat {α : Type} (b : List α) (i n : Nat) : sl b (some (i : Int)) (some ((i : Int) + (n : Int))) = (b.drop i).take n := by
  unfold sl
  simp only [Option.elim_some]
  have h1 : clipAt b.length (i : Int) = min i b.length := clipAt_nat _ _
  have h2 : clipAt b.length ((i : Int) + n) = min (i + n) b.length := by rw [← Int.natCast_add]; exact clipAt_nat _ _
  refine rwg h1 ?_
  refine rwg h2 ?_
  by_cases h : i ≤ b.length
  · rw [Nat.min_eq_left h]
    by_cases h' : i + n ≤ b.length
    · rw [Nat.min_eq_left h', Nat.add_sub_cancel_left]
    · have h' := Nat.le_of_lt (Nat.lt_of_not_le h')
      rw [Nat.min_eq_right h', List.take_of_length_le (Nat.le_of_eq (List.length_drop ..)), List.take_of_length_le (by rw [List.length_drop]; exact Nat.sub_le_iff_le_add'.mpr h')]
  · have h := Nat.le_of_lt (Nat.lt_of_not_le h)
    rw [List.drop_eq_nil_of_le (Nat.le_min.mpr ⟨h, Nat.le_refl _⟩), List.drop_eq_nil_of_le h, List.take_nil, List.take_nil]
theorem sl_to {α : Type} (b : List α) (n : Nat) : sl b none (some (n : Int)) = b.take n := by
  have := sl_nat b 0 n
  unfold sl at this ⊢
  simp only [Option.elim_some, Option.elim_none] at this ⊢
  rw [show (((0 : Nat) : Int) + (n : Int)) = (n : Int) by lia, show clipAt b.length ((0 : Nat) : Int) = 0 from (clipAt_nat _ _).trans (Nat.zero_min _)] at this
  exact this
theorem sl_from {α : Type} (b : List α) (n : Nat) : sl b (some (n : Int)) none = b.drop n := by
  unfold sl
  simp only [Option.elim_some, Option.elim_none]
  have h1 : clipAt b.length (n : Int) = min n b.length := clipAt_nat _ _
  refine rwg h1 ?_
  by_cases h : n ≤ b.length
  · rw [Nat.min_eq_left h]; exact List.take_of_length_le (Nat.le_of_eq (List.length_drop ..))
  · have h := Nat.le_of_lt (Nat.lt_of_not_le h)
    rw [List.drop_eq_nil_of_le (Nat.le_min.mpr ⟨h, Nat.le_refl _⟩), List.drop_eq_nil_of_le h, List.take_nil]
theorem byte_int (x : Int) : (((x % 256).toNat.toUInt8.toNat : Nat) : Int) = x % 256 := by
  rw [show (x % 256).toNat.toUInt8.toNat = (x % 256).toNat % 256 from rfl]; lia
theorem ofBig_bigOf {x : Int} (h : 0 ≤ x ∧ x < 4294967296) : ofBig (bigOf 4 x) = x := by
  show (((0 * 256 + (((x / 256 / 256 / 256 % 256).toNat.toUInt8.toNat : Nat) : Int)) * 256 + (((x / 256 / 256 % 256).toNat.toUInt8.toNat : Nat) : Int)) * 256 + (((x / 256 % 256).toNat.toUInt8.toNat : Nat) : Int)) * 256 + (((x % 256).toNat.toUInt8.toNat : Nat) : Int) = x
  rw [byte_int, byte_int, byte_int, byte_int]
  lia
abbrev NS : Int := 4294967295
section
variable {R σ : Store} {d fa fb fj j a : Addr} {D : AD} {o : O} {Q : V → Store → Prop} {X : Store → Prop} {m : Nat} {f : AF} {ν s : Int} {n : Nat}
theorem DiskAt.r (H : DiskAt R σ d fb fj D) (e : R a = some o) : σ a = some o := by
  refine foldg fun G0 fin0 => ?_
  obtain ⟨_, _, _, _, _, _, _, H⟩ := H
  refine fin0 ?_
  exact H.r e
theorem DiskAt.dsk (H : DiskAt R σ d fb fj D) : ∃ fd sh lk, σ d = some (dO fd sh lk D.st D.cr) := by
  refine foldg fun G0 fin0 => ?_
  obtain ⟨_, _, _, _, _, _, _, H⟩ := H
  refine fin0 ?_
  exact ⟨_, _, _, H.get 0 rfl⟩
theorem DiskAt.setR (H : DiskAt R σ d fb fj D) (e : R a = some o) (o' : O) : DiskAt (R.set a o') (σ.set a o') d fb fj D := by
  refine foldg fun G0 fin0 => ?_
  obtain ⟨_, _, _, _, _, _, _, H⟩ := H
  refine fin0 ?_
  exact ⟨_, _, _, _, _, _, _, H.setR e o'⟩
theorem DiskAt.lessR {R' : Store} (H : DiskAt R σ d fb fj D) (l : Less R' R) : DiskAt R' σ d fb fj D := by
  refine foldg fun G0 fin0 => ?_
  obtain ⟨_, _, _, _, _, _, _, H⟩ := H
  refine fin0 ?_
  exact ⟨_, _, _, _, _, _, _, H.lessR l⟩
theorem DiskAt.new (H : DiskAt R σ d fb fj D) (h : σ a = none) (o : O) : R a = none ∧ DiskAt (R.set a o) (σ.set a o) d fb fj D := by
  refine foldg fun G0 fin0 => ?_
  obtain ⟨_, _, _, _, _, _, _, H⟩ := H
  refine fin0 ?_
  exact ⟨(H.new h o).off (a, o) (.head _), _, _, _, _, _, _, _, (H.new h o).toR⟩
theorem Less.of_new (h : R a = none) (o : O) : Less R (R.set a o) := fun b x e => by
  rw [Store.other _ _ fun q => by rw [q, h] at e; cases e]; exact e
theorem c_jf (H : DiskAt R σ d fb fj D) (hj : σ j = some (jO d ν n s)) (hf : D.jr = some f) (q : Q (.ref fj) σ) : wCall tab (m + 2) .jFile [.ref j] σ Q X := by
  refine foldg fun G0 fin0 => ?_
  obtain ⟨_, _, _, hd⟩ := H.dsk
  refine fin0 ?_
  exact call_of rfl ⟨_, .mk _ _ _ _ _ hj rfl rfl, _, .fn _ _ _ _ _ hd rfl rfl, _, .mk _ _ _ _ _ hj rfl rfl, d_openJ H hf (ret_of q)⟩
theorem c_jfN (H : DiskAt R σ d fb fj D) (hj : σ j = some (jO d ν n s)) (hf : D.jr = none) (q : ∀ σ' fj', DiskAt R σ' d fb fj' ⟨D.db, some .new, D.st, D.cr⟩ → Q (.ref fj') σ') : wCall tab (m + 3) .jFile [.ref j] σ Q X := by
  obtain ⟨_, _, _, hd⟩ := H.dsk
  exact call_of rfl ⟨_, .mk _ _ _ _ _ hj rfl rfl, _, .fn _ _ _ _ _ hd rfl rfl, _, .mk _ _ _ _ _ hj rfl rfl, d_openN H hf fun σ' fj' H' => ret_of (q σ' fj' H')⟩
theorem c_jrs (hj : σ j = some (jO d ν n s)) (q : Q (.int 72) σ) : wCall tab (m + 1) .jRecordSize [.ref j] σ Q X :=
  call_of rfl ⟨_, .mk _ _ _ _ _ hj rfl rfl, _, .addI _ _, ret_of q⟩
theorem new_journal (H : DiskAt R σ d fb fj D) (q : ∀ σ' j, R j = none → DiskAt (R.set j (jO d 0 (0 : Nat) NS)) σ' d fb fj D → Q (.ref j) σ') : wApp (wCall tab (m + 1)) (.cls .journal) [.ref d, .str "db", .int 64] σ Q X := by
  intro j hj
  obtain ⟨hR, H1⟩ := H.new hj (.inst .journal [])
  have lt : ∀ n, Nat.ble n 100 = true → n ≤ 100 := fun n h => Nat.le_of_ble_eq_true h
  have st : ∀ {R' σ' : Store} {o : O} (o' : O), DiskAt (R'.set j o) σ' d fb fj D → DiskAt (R'.set j o') (σ'.set j o') d fb fj D := fun o' H => by
    have := H.setR (Store.self ..) o'; rwa [Store.set_set] at this
  refine call_of rfl ⟨_, .mk _ _ _ _ _ (H1.r (Store.self ..)) (lt _ rfl), ?_⟩
  have H2 := st (.inst .journal [("disk", .ref d)]) H1
  refine ⟨_, .addS, _, .mk _ _ _ _ _ (H2.r (Store.self ..)) (lt _ rfl), ?_⟩
  have H3 := st (.inst .journal [("disk", .ref d), ("name", .str "db-journal")]) H2
  refine ⟨_, .mk _ _ _ _ _ (H3.r (Store.self ..)) (lt _ rfl), ?_⟩
  have H4 := st (.inst .journal [("disk", .ref d), ("name", .str "db-journal"), ("page_size", .int 64)]) H3
  refine ⟨_, .mk _ _ _ _ _ (H4.r (Store.self ..)) (lt _ rfl), ?_⟩
  have H5 := st (.inst .journal [("disk", .ref d), ("name", .str "db-journal"), ("page_size", .int 64), ("nonce", .int 0)]) H4
  refine ⟨_, .mk _ _ _ _ _ (H5.r (Store.self ..)) (lt _ rfl), ?_⟩
  have H6 := st (.inst .journal [("disk", .ref d), ("name", .str "db-journal"), ("page_size", .int 64), ("nonce", .int 0), ("count", .int (0 : Nat))]) H5
  refine ⟨_, .mk _ _ _ _ _ (H6.r (Store.self ..)) (lt _ rfl), ?_⟩
  have H7 := st (jO d 0 (0 : Nat) NS) H6
  exact ⟨_, Less.refl _, q _ j hR H7⟩
theorem AF.new_small : AF.new.Small := ⟨Nat.zero_le _, Nat.zero_le _⟩
theorem c_begin {pc : Int} (H : DiskAt R σ d fb fj D) {k0 s0 ν0 : Int} (hj : R j = some (jO d ν0 k0 s0)) (hn : D.jr = none) (hν : 0 ≤ ν ∧ ν < 4294967296) (hp : 0 ≤ pc ∧ pc < 4294967296)
    (hQ : ∀ σ' fj', (∀ k, D.cr = some k → D.st + 1 < k) → DiskAt (R.set j (jO d ν (0 : Nat) NS)) σ' d fb fj' ⟨D.db, some (AF.new.write 0 (headB NS ν pc)), D.st + 1, D.cr⟩ → Q .none σ')
    (hX : ∀ σ' fj' k, D.cr = some k → DiskAt (R.set j (jO d ν (0 : Nat) NS)) σ' d fb fj' ⟨D.db, some .new, D.st, D.cr⟩ → X σ') : wCall tab (m + 4) .jBegin [.ref j, .int pc, .int ν] σ Q X := by
  have e : Int.fmod ν 4294967296 = ν := Int.fmod_eq_of_lt hν.1 hν.2
  have ns : (0 : Int) ≤ NS ∧ NS < 4294967296 := by decide
  have ps : (0 : Int) ≤ 64 ∧ (64 : Int) < 4294967296 := by decide
  have H1 := H.setR hj (jO d ν k0 s0)
  have H2 := H1.setR (Store.self ..) (jO d ν (0 : Nat) s0)
  have H3 := H2.setR (Store.self ..) (jO d ν (0 : Nat) NS)
  rw [Store.set_set, Store.set_set] at H3
  refine call_of rfl ⟨_, .modI _ _ (by decide), _, .mk _ _ _ _ _ (H.r hj) (Nat.le_of_ble_eq_true rfl), ?_⟩
  refine rwg e ?_
  refine ⟨_, .mk _ _ _ _ _ (H1.r (Store.self ..)) (Nat.le_of_ble_eq_true rfl), _, .mk _ _ _ _ _ (H2.r (Store.self ..)) (Nat.le_of_ble_eq_true rfl), ?_⟩
  refine ⟨_, .fn _ _ _ _ _ (H3.r (Store.self ..)) rfl rfl, c_jfN H3 (H3.r (Store.self ..)) hn fun σ' fj' H4 => ?_⟩
  have hj4 := H4.r (Store.self ..)
  have F := focusJ H4 rfl
  refine ⟨Nat.le_of_ble_eq_true rfl, _, (F.sel rfl fun u_ u_ u_ u_ u_ => rfl), d_size F AF.new_small ⟨_, .gt _ _, ?_⟩⟩
  refine rwg (decide_eq_false (by exact Int.lt_irrefl 0)) ?_
  have l : ∀ x, (bigOf 4 x).length = 4 := big_len 4
  refine c_pn ns ⟨_, .addB _ _ (by rw [l]; exact Nat.le_of_ble_eq_true rfl), _, .mk _ _ _ _ _ hj4 rfl rfl, c_pn hν ⟨_, .addB _ _ (by rw [List.length_append, l, l]; exact Nat.le_of_ble_eq_true rfl), Nat.le_of_ble_eq_true rfl, ?_⟩⟩
  refine ⟨_, (F.sel rfl fun u_ u_ u_ u_ u_ => rfl), c_pn hp ⟨_, .addB _ _ (by rw [List.length_append, List.length_append, l, l, l]; exact Nat.le_of_ble_eq_true rfl), _, .mk _ _ _ _ _ hj4 rfl rfl, c_pn ps ⟨_, .addB _ _ (by rw [List.length_append, List.length_append, List.length_append, l, l, l, l]; exact Nat.le_of_ble_eq_true rfl), ?_⟩⟩⟩
  exact d_write (i := 0) F AF.new_small ⟨Nat.zero_le _, by show (headB NS ν pc).length ≤ _; rw [headB_len]; exact Nat.le_of_ble_eq_true rfl⟩ (fun σ'' hk H5 => ⟨trivial, ret_none (hQ σ'' fj' hk H5)⟩) fun k ek u_ => x_of (hX σ' fj' k ek H4)
end
end Mine
end
section
namespace Mine
section
variable {R σ : Store} {d fa fb fj j a : Addr} {D : AD} {o : O} {Q : V → Store → Prop} {X : Store → Prop} {m : Nat} {f : AF} {ν s : Int} {n : Nat}
theorem c_add {p : Int} {o : Bs} (H : DiskAt R σ d fb fj D) (hj : R j = some (jO d ν n s)) (hf : D.jr = some f) (hs : f.Small) (hn : n ≤ 100) (hp : 0 ≤ p ∧ p < 4294967296) (ho : o.length = 64)
    (hQ : ∀ σ', (∀ k, D.cr = some k → D.st + 1 < k) → DiskAt (R.set j (jO d ν (n + 1 : Nat) s)) σ' d fb fj ⟨D.db, some (f.write (24 + 72 * n) (recB ν p o)), D.st + 1, D.cr⟩ → Q .none σ')
    (hX : ∀ k, D.cr = some k → X σ) : wCall tab (m + 4) .jAdd [.ref j, .int p, .bytes o] σ Q X := by
  have hj0 := H.r hj
  have l : ∀ x, (bigOf 4 x).length = 4 := big_len 4
  have e : (24 + (n : Int) * 72) = ((24 + 72 * n : Nat) : Int) := by lia
  have F := focusJ H hf
  refine call_of rfl ⟨_, .mk _ _ _ _ _ hj0 rfl rfl, _, .fn _ _ _ _ _ hj0 rfl rfl, c_jrs hj0 ⟨_, .mulI _ _ (mul_small (by lia)), _, .addI _ _, Nat.le_of_ble_eq_true rfl, ?_⟩⟩
  refine rwg e ?_
  refine (c_pn hp ⟨_, .bytesB _, _, .addB _ _ (by rw [l, ho]; exact Nat.le_of_ble_eq_true rfl), _, .mk _ _ _ _ _ hj0 rfl rfl, c_rs ho (c_pn (recSum_range ..) ⟨_, .addB _ _ (by rw [List.length_append, l, l, ho]; exact Nat.le_of_ble_eq_true rfl), Nat.le_of_ble_eq_true rfl, ?_⟩)⟩)
  refine ⟨_, .fn _ _ _ _ _ hj0 rfl rfl, c_jf H hj0 hf ⟨_, (F.sel rfl fun u_ u_ u_ u_ u_ => rfl), ?_⟩⟩
  exact d_write F hs ⟨by lia, by show (recB ν p o).length ≤ _; rw [recB_len, ho]; exact Nat.le_of_ble_eq_true rfl⟩ (fun σ' hk H5 => ⟨trivial, _, .mk _ _ _ _ _ (H5.r hj) rfl rfl, _, .mk _ _ _ _ _ (H5.r hj) (Nat.le_of_ble_eq_true rfl), ret_none (hQ _ hk (H5.setR hj _))⟩) fun k ek u_ => x_of (hX k ek)
theorem c_jsync (H : DiskAt R σ d fb fj D) (hj : R j = some (jO d ν n s)) (hf : D.jr = some f) (hs : f.Small) (hb : f.now.length ≤ 9000) (hn : n ≤ 100)
    (hQ : s = n → Q .none σ)
    (hQ' : s ≠ n → ∀ σ', (∀ k, D.cr = some k → D.st + 3 < k) → DiskAt (R.set j (jO d ν n n)) σ' d fb fj ⟨D.db, some (f.sync.write 8 (bigOf 4 n)).sync, D.st + 3, D.cr⟩ → Q .none σ')
    (hX : s ≠ n → ∀ σ' k s' f', D.cr = some k → f' = f ∨ f' = f.sync ∨ f' = f.sync.write 8 (bigOf 4 n) → DiskAt R σ' d fb fj ⟨D.db, some f', s', D.cr⟩ → X σ') : wCall tab (m + 4) .jSync [.ref j] σ Q X := by
  have hj0 := H.r hj
  refine call_of rfl ⟨_, .mk _ _ _ _ _ hj0 rfl rfl, _, .mk _ _ _ _ _ hj0 rfl rfl, _, .eqI _ _, ?_⟩
  by_cases q : s = n
  · rw [decide_eq_true q]; exact ret_of (hQ q)
  refine rwg (decide_eq_false q) ?_
  have F := focusJ H hf
  have s1 : f.sync.Small := ⟨hs.now, Nat.zero_le _⟩
  have s2 : (f.sync.write 8 (bigOf 4 n)).now.length ≤ 10000 := by
    show (put f.now 8 (bigOf 4 n)).length ≤ _
    rw [put_len, big_len]
    exact Nat.max_le.mpr ⟨Nat.le_trans hb (Nat.le_of_ble_eq_true rfl), Nat.le_of_ble_eq_true rfl⟩
  refine ⟨_, .fn _ _ _ _ _ hj0 rfl rfl, c_jf H hj0 hf ⟨Nat.le_of_ble_eq_true rfl, _, (F.sel rfl fun u_ u_ u_ u_ u_ => rfl), ?_⟩⟩
  refine d_sync F hs (fun σ1 hk1 H1 => ⟨trivial, ?_⟩) fun k ek u_ => x_of (hX q σ k D.st f ek (.inl rfl) (by rw [← hf]; exact H))
  have F1 := focusJ H1 rfl
  have hj1 := H1.r hj
  refine ⟨_, (F1.sel rfl fun u_ u_ u_ u_ u_ => rfl), _, .mk _ _ _ _ _ hj1 rfl rfl, c_pn ⟨by exact Int.natCast_nonneg _, by lia⟩ ?_⟩
  refine d_write (i := 8) F1 s1 ⟨Nat.le_of_ble_eq_true rfl, by rw [big_len]; exact Nat.le_of_ble_eq_true rfl⟩ (fun σ2 hk2 H2 => ⟨trivial, ?_⟩) fun k ek u_ => x_of (hX q σ1 k _ _ ek (.inr (.inl rfl)) H1)
  have F2 := focusJ H2 rfl
  refine ⟨_, (F2.sel rfl fun u_ u_ u_ u_ u_ => rfl), ?_⟩
  refine d_sync F2 ⟨s2, Nat.le_of_ble_eq_true rfl⟩ (fun σ3 hk3 H3 => ⟨trivial, ?_⟩) fun k ek u_ => x_of (hX q σ2 k _ _ ek (.inr (.inr rfl)) H2)
  have hj3 := H3.r hj
  refine ⟨_, .mk _ _ _ _ _ hj3 rfl rfl, _, .mk _ _ _ _ _ hj3 (Nat.le_of_ble_eq_true rfl), ret_none (hQ' q _ (fun k ek => ?_) ?_)⟩
  · have : D.st + 1 + 1 + 1 < k := hk3 k ek
    lia
  · have := H3.setR hj (jO d ν n n)
    rwa [show D.st + 1 + 1 + 1 = D.st + 3 by lia] at this
theorem bigOf_zero : ofBig [0, 0, 0, 0] = 0 := rfl
theorem c_rh0 (H : DiskAt R σ d fb fj D) (hj : R j = some (jO d ν n s)) (hf : D.jr = some f) (hs : f.Small) (h : f.now.length < 24 ∨ f.now.take 8 ≠ magic ∨ ofBig ((f.now.drop 20).take 4) = 0) (q : Q .none σ) : wCall tab (m + 4) .jReadHead [.ref j] σ Q X := by
  have hj0 := H.r hj
  have F := focusJ H hf
  refine call_of rfl ⟨_, .fn _ _ _ _ _ hj0 rfl rfl, c_jf H hj0 hf ⟨_, (F.sel rfl fun u_ u_ u_ u_ u_ => rfl), d_read (i := 0) (n := 24) F hs ?_⟩⟩
  refine rwg (sl_nat f.now 0 24) ?_
  refine rwg List.drop_zero ?_
  have hl : (f.now.take 24).length ≤ 24 := by rw [List.length_take]; exact Nat.min_le_left _ _
  refine ⟨Nat.le_of_ble_eq_true rfl, _, .lenB _ (by exact Nat.le_trans (by assumption) (Nat.le_of_ble_eq_true rfl)), _, .lt _ _, ?_⟩
  by_cases q1 : ((f.now.take 24).length : Int) < 24
  · rw [decide_eq_true q1]; exact ret_of q
  have q1' : 24 ≤ f.now.length := by rw [List.length_take] at q1; lia
  refine rwg (decide_eq_false q1) ?_
  refine ⟨_, .bytes _ (by exact Nat.le_trans (by assumption) (Nat.le_of_ble_eq_true rfl)), _, .neB _ _, ?_⟩
  rw [show sl (f.now.take 24) none (some 8) = f.now.take 8 from (sl_to _ 8).trans (by rw [List.take_take]; rfl)]
  by_cases q2 : f.now.take 8 = magic
  · refine rwg (show decide (f.now.take 8 ≠ [112, 98, 106, 111, 117, 114, 110, 108]) = false from decide_eq_false fun h => h q2) ?_
    have e : sl (f.now.take 24) (some 20) (some (20 + 4)) = (f.now.drop 20).take 4 := (sl_nat _ 20 4).trans (by rw [List.drop_take, List.take_take]; rfl)
    refine (c_gn (by exact Nat.le_trans (by assumption) (Nat.le_of_ble_eq_true rfl)) (by rw [e, List.length_take]; lia) ⟨Nat.le_of_ble_eq_true rfl, c_ips ?_⟩)
    refine rwg e ?_
    refine rwg (h.resolve_left (by exact Nat.not_lt.mpr (by assumption)) |>.resolve_left fun h => h q2) ?_
    exact (ret_of q)
  · rw [show decide (f.now.take 8 ≠ [112, 98, 106, 111, 117, 114, 110, 108]) = true from decide_eq_true q2]; exact ret_of q
theorem c_rh1 {c pc ν' : Int} (H : DiskAt R σ d fb fj D) (hj : R j = some (jO d ν n s)) (hf : D.jr = some f) (hs : f.Small) (h : f.now.take 24 = headB c ν' pc) (hc : 0 ≤ c ∧ c < 4294967296) (hν : 0 ≤ ν' ∧ ν' < 4294967296) (hp : 0 ≤ pc ∧ pc < 4294967296)
    (q : Q (.tup [.int c, .int ν', .int pc, .int 64]) σ) : wCall tab (m + 4) .jReadHead [.ref j] σ Q X := by
  have hj0 := H.r hj
  have F := focusJ H hf
  have ps : (0 : Int) ≤ 64 ∧ (64 : Int) < 4294967296 := by decide
  refine call_of rfl ⟨_, .fn _ _ _ _ _ hj0 rfl rfl, c_jf H hj0 hf ⟨_, (F.sel rfl fun u_ u_ u_ u_ u_ => rfl), d_read (i := 0) (n := 24) F hs ?_⟩⟩
  refine rwg (sl_nat f.now 0 24) ?_
  refine rwg List.drop_zero ?_
  refine rwg h ?_
  have hl := headB_len c ν' pc
  have part : ∀ (i : Nat) x A B, headB c ν' pc = A ++ (bigOf 4 x ++ B) → A.length = i → sl (headB c ν' pc) (some (i : Int)) (some ((i : Int) + 4)) = bigOf 4 x := fun i x A B e ei => by
    rw [show ((i : Int) + 4) = (i : Int) + ((4 : Nat) : Int) from rfl, sl_nat, e, ← ei, List.drop_left]; exact List.take_left' (big_len 4 x)
  have e20 := part 20 64 (magic ++ bigOf 4 c ++ bigOf 4 ν' ++ bigOf 4 pc) [] (by rw [List.append_nil]; rfl) (by simp [big_len, magic])
  have e8 := part 8 c magic (bigOf 4 ν' ++ bigOf 4 pc ++ bigOf 4 64) (by simp [headB]) rfl
  have e12 := part 12 ν' (magic ++ bigOf 4 c) (bigOf 4 pc ++ bigOf 4 64) (by simp [headB]) (by simp [big_len, magic])
  have e16 := part 16 pc (magic ++ bigOf 4 c ++ bigOf 4 ν') (bigOf 4 64) (by simp [headB]) (by simp [big_len, magic])
  have e0 : sl (headB c ν' pc) none (some 8) = magic := (sl_to _ 8).trans rfl
  have gn : ∀ {i : Int} {x : Int} {Q : V → Store → Prop} {σ : Store} {X : Store → Prop}, sl (headB c ν' pc) (some i) (some (i + 4)) = bigOf 4 x → 0 ≤ x ∧ x < 4294967296 → Q (.int x) σ → wCall tab (m + 3) .getNumber [.bytes (headB c ν' pc), .int i, .int 4] σ Q X := fun e hx q =>
    c_gn (by rw [hl]; exact Nat.le_of_ble_eq_true rfl) (by rw [e, big_len]; exact Nat.le_of_ble_eq_true rfl) (by rw [e, ofBig_bigOf hx]; exact q)
  refine ⟨Nat.le_of_ble_eq_true rfl, _, .lenB _ (by rw [hl]; exact Nat.le_of_ble_eq_true rfl), _, .lt _ _, ?_⟩
  refine rwg hl ?_
  refine ⟨_, .bytes _ (by rw [hl]; exact Nat.le_of_ble_eq_true rfl), _, .neB _ _, ?_⟩
  refine rwg e0 ?_
  refine (gn e20 ps ⟨Nat.le_of_ble_eq_true rfl, c_ips (?_)⟩)
  exact (gn e8 hc (gn e12 hν (gn e16 hp ⟨Nat.le_of_ble_eq_true rfl, ret_of q⟩)))
end
end Mine
end
section
namespace Mine
theorem fl_len {k : Nat} {L : List Bs} : (∀ b ∈ L, b.length = k) → L.flatten.length = k * L.length := by
  induction L with
  | nil => exact fun u_ => rfl
  | cons b L ih => intro h; rw [List.flatten_cons, List.length_append, h b (.head _), ih fun c hc => h c (.tail _ hc), List.length_cons, Nat.mul_succ, Nat.add_comm]
theorem fl_drop {k : Nat} {L : List Bs} : ∀ (i : Nat), (∀ b ∈ L, b.length = k) → L.flatten.drop (k * i) = (L.drop i).flatten := by
  induction L with
  | nil => intro i _; rw [List.flatten_nil, List.drop_nil, List.drop_nil, List.flatten_nil]
  | cons b L ih =>
    intro i h
    cases i with
    | zero => rfl
    | succ i => rw [List.flatten_cons, Nat.mul_succ, Nat.add_comm, ← List.drop_drop, List.drop_left' (h b (.head _)), ih i fun c hc => h c (.tail _ hc), List.drop_succ_cons]
theorem fl_take {k : Nat} {L : List Bs} : ∀ (i : Nat), (∀ b ∈ L, b.length = k) → L.flatten.take (k * i) = (L.take i).flatten := by
  induction L with
  | nil => intro i _; rw [List.flatten_nil, List.take_nil, List.take_nil, List.flatten_nil]
  | cons b L ih =>
    intro i h
    cases i with
    | zero => rfl
    | succ i => rw [List.flatten_cons, Nat.mul_succ, Nat.add_comm, ← h b (.head _), List.take_length_add_append, h b (.head _), ih i fun c hc => h c (.tail _ hc), List.take_succ_cons, List.flatten_cons]
theorem fl_at {k i : Nat} {L : List Bs} {b : Bs} (h : ∀ b ∈ L, b.length = k) (e : L[i]? = some b) : (L.flatten.drop (k * i)).take k = b := by
  obtain ⟨hi, e⟩ := List.getElem?_eq_some_iff.mp e
  refine rwg (fl_drop i h) ?_
  refine rwg (List.drop_eq_getElem_cons hi) ?_
  refine rwg List.flatten_cons ?_
  refine rwg e ?_
  exact List.take_left' (h b (e ▸ List.getElem_mem hi))
abbrev Rec := Nat × Bs
noncomputable def recsB (ν : Int) (rs : List Rec) : Bs := (rs.map fun r => recB ν r.1 r.2).flatten
noncomputable def plays (g : AF) (rs : List Rec) : AF := rs.foldl (fun g r => g.write ((r.1 - 1) * 64) r.2) g
noncomputable def dbEnd (g : AF) (pc : Nat) : AF := if g.now.length = pc * 64 then g else g.trunc (pc * 64)
structure RecOk (pc : Nat) (r : Rec) : Prop where
  lo : 1 ≤ r.1
  hi : r.1 ≤ pc
  len : r.2.length = 64
section
variable {R σ : Store} {d fa fb fj j a : Addr} {D : AD} {o : O} {Q : V → Store → Prop} {X : Store → Prop} {m : Nat} {f : AF} {ν s : Int} {n : Nat}
theorem c_fin (H : DiskAt R σ d fb fj D) (hj : R j = some (jO d ν n s)) (hf : D.jr = some f) (hQ : ∀ σ', (∀ k, D.cr = some k → D.st + 1 < k) → DiskAt R σ' d fb fj ⟨D.db, none, D.st + 1, D.cr⟩ → Q .none σ') (hX : ∀ k, D.cr = some k → X σ) :
    wCall tab (m + 3) .jFinish [.ref j] σ Q X := by
  have hj0 := H.r hj
  obtain ⟨_, _, _, hd⟩ := H.dsk
  exact call_of rfl ⟨_, .mk _ _ _ _ _ hj0 rfl rfl, _, .fn _ _ _ _ _ hd rfl rfl, _, .mk _ _ _ _ _ hj0 rfl rfl, d_delete H hf (fun σ' hk H' => ⟨trivial, ret_none (hQ σ' hk H')⟩) fun k ek u_ => x_of (hX k ek)⟩
theorem c_hot0 {pc ν' : Int} (H : DiskAt R σ d fb fj D) (hj : R j = some (jO d ν n s)) (hf : D.jr = some f) (hs : f.Small) (hν : 0 ≤ ν' ∧ ν' < 4294967296) (hp : 0 ≤ pc ∧ pc < 4294967296)
    (h : (f.now.length < 24 ∨ f.now.take 8 ≠ magic ∨ ofBig ((f.now.drop 20).take 4) = 0) ∨ f.now.take 24 = headB NS ν' pc) (q : Q (.bool false) σ) : wCall tab (m + 5) .jIsHot [.ref j] σ Q X := by
  have hj0 := H.r hj
  obtain ⟨_, _, _, hd⟩ := H.dsk
  refine call_of rfl ⟨_, .mk _ _ _ _ _ hj0 rfl rfl, _, .fn _ _ _ _ _ hd rfl rfl, _, .mk _ _ _ _ _ hj0 rfl rfl, d_exists H (?_)⟩
  refine rwg hf ?_
  rcases h with h | h
  · exact ⟨_, .fn _ _ _ _ _ hj0 rfl rfl, c_rh0 H hj hf hs h ⟨Nat.le_of_ble_eq_true rfl, _, .is _, ret_of q⟩⟩
  · exact ⟨_, .fn _ _ _ _ _ hj0 rfl rfl, c_rh1 H hj hf hs h (by decide) hν hp ⟨Nat.le_of_ble_eq_true rfl, _, .is _, _, .tup _ _ _ (Nat.le_of_ble_eq_true rfl) rfl, _, .eqI _ _, ret_of q⟩⟩
theorem c_hot1 {pc ν' : Int} {c : Nat} (H : DiskAt R σ d fb fj D) (hj : R j = some (jO d ν n s)) (hf : D.jr = some f) (hs : f.Small) (hν : 0 ≤ ν' ∧ ν' < 4294967296) (hp : 0 ≤ pc ∧ pc < 4294967296) (hc : c ≤ 100)
    (h : f.now.take 24 = headB c ν' pc) (hl : 24 + 72 * c ≤ f.now.length) (q : Q (.bool true) σ) : wCall tab (m + 5) .jIsHot [.ref j] σ Q X := by
  have hj0 := H.r hj
  refine foldg fun G0 fin0 => ?_
  obtain ⟨_, _, _, hd⟩ := H.dsk
  have F := focusJ H hf
  refine fin0 ?_
  refine call_of rfl ⟨_, .mk _ _ _ _ _ hj0 rfl rfl, _, .fn _ _ _ _ _ hd rfl rfl, _, .mk _ _ _ _ _ hj0 rfl rfl, d_exists H (?_)⟩
  refine rwg hf ?_
  refine ⟨_, .fn _ _ _ _ _ hj0 rfl rfl, c_rh1 H hj hf hs h (by lia) hν hp ⟨Nat.le_of_ble_eq_true rfl, _, .is _, _, .tup _ _ _ (Nat.le_of_ble_eq_true rfl) rfl, _, .eqI _ _, ?_⟩⟩
  refine rwg (decide_eq_false (show ¬(c : Int) = 4294967295 by lia)) ?_
  refine ⟨_, .tup _ _ _ (Nat.le_of_ble_eq_true rfl) rfl, _, .tup _ _ _ (Nat.le_of_ble_eq_true rfl) rfl, _, .addI _ _, _, .mulI _ _ (mul_small (by lia)), _, .addI _ _, ?_⟩
  refine ⟨_, .fn _ _ _ _ _ hj0 rfl rfl, c_jf H hj0 hf ⟨_, (F.sel rfl fun u_ u_ u_ u_ u_ => rfl), d_size F hs ⟨_, .le _ _, ?_⟩⟩⟩
  refine rwg (decide_eq_true (show (24 + (c : Int) * (64 + 8)) ≤ f.now.length by lia)) ?_
  exact ret_of q
end
end Mine
end
section
namespace Mine
section
variable {R σ : Store} {d fa fb fj j a : Addr} {D : AD} {o : O} {Q : V → Store → Prop} {X : Store → Prop} {m : Nat} {f : AF} {ν s : Int} {n : Nat}
theorem tgt_ok {is : List Nat} {ρ : Loc} (n : Nat) (hρ : ρ.length = n) (h : is.all (fun i => Nat.blt i n) = true) : ∀ i ∈ is, i < ρ.length := fun i hi => by
  rw [hρ]; exact Nat.le_of_ble_eq_true (List.all_eq_true.mp h i hi)
theorem rngL_at {n i : Nat} {v : V} (h : (rngL n)[i]? = some v) : i < n ∧ v = .int i := by
  unfold rngL at h
  rw [List.getElem?_map, Int.toNat_natCast] at h
  obtain ⟨k, hk, rfl⟩ := Option.map_eq_some_iff.mp h
  obtain ⟨hi, e⟩ := List.getElem?_eq_some_iff.mp hk
  rw [List.getElem_range] at e
  rw [List.length_range] at hi
  exact ⟨hi, by rw [← e]⟩
theorem recB_num {ν : Int} {p : Nat} {o : Bs} (ho : o.length = 64) : sl (recB ν p o) (some 0) (some (0 + 4)) = bigOf 4 p ∧ sl (recB ν p o) (some 4) (some (4 + 64)) = o ∧ sl (recB ν p o) (some (4 + 64)) (some (4 + 64 + 4)) = bigOf 4 (recSum ν p o) := by
  have l := big_len 4 p
  refine ⟨(sl_nat _ 0 4).trans ?_, (sl_nat _ 4 64).trans ?_, (sl_nat _ 68 4).trans ?_⟩ <;> unfold recB
  · rw [List.drop_zero, List.append_assoc]; exact List.take_left' l
  · rw [List.append_assoc, List.drop_left' l]; exact List.take_left' ho
  · rw [List.drop_left' (by rw [List.length_append, l, ho])]; exact List.take_of_length_le (by rw [big_len]; exact Nat.le_refl _)
theorem plays_snoc (g : AF) (rs : List Rec) {i : Nat} {r : Rec} (e : rs[i]? = some r) : plays g (rs.take (i + 1)) = (plays g (rs.take i)).write ((r.1 - 1) * 64) r.2 := by
  unfold plays
  rw [List.take_add_one, e, List.foldl_append]; rfl
theorem c_play {pc : Nat} {ν' : Int} {rs : List Rec} (H : DiskAt R σ d fb fj D) (hj : R j = some (jO d ν n s)) (hf : D.jr = some f) (hs : f.Small) (hν : 0 ≤ ν' ∧ ν' < 4294967296) (hp : pc ≤ 100) (hr : ∀ r ∈ rs, RecOk pc r) (hn : rs.length ≤ 100)
    (h : f.now.take (24 + 72 * rs.length) = headB rs.length ν' pc ++ recsB ν' rs) (hsm : ∀ i, (plays D.db (rs.take i)).now.length ≤ 9000 ∧ (plays D.db (rs.take i)).pend.length ≤ 99)
    (hQ : ∀ σ' s', (∀ k, D.cr = some k → s' < k) → DiskAt R σ' d fb fj ⟨(dbEnd (plays D.db rs) pc).sync, some f, s', D.cr⟩ → Q .none σ')
    (hX : ∀ σ' s' k g, D.cr = some k → (∃ i, g = plays D.db (rs.take i)) ∨ g = dbEnd (plays D.db rs) pc → DiskAt R σ' d fb fj ⟨g, some f, s', D.cr⟩ → X σ') : wCall tab (m + 6) .jPlay [.ref j, .ref fb] σ Q X := by
  have hj0 := H.r hj
  have hd : f.now.take 24 = headB rs.length ν' pc := by
    have := congrArg (List.take 24) h
    rwa [List.take_take, List.take_left' (headB_len ..), Nat.min_eq_left (by exact Nat.le_add_right _ _)] at this
  have hsm' : ∀ i, (plays D.db (rs.take i)).Small := fun i => ⟨Nat.le_trans (hsm i).1 (Nat.le_of_ble_eq_true rfl), Nat.le_trans (hsm i).2 (Nat.le_of_ble_eq_true rfl)⟩
  have rec_at : ∀ {i r}, rs[i]? = some r → sl f.now (some ((24 + 72 * i : Nat) : Int)) (some ((24 + 72 * i : Nat) + (72 : Nat) : Int)) = recB ν' r.1 r.2 := fun {i r} e => by
    obtain ⟨hi, e'⟩ := List.getElem?_eq_some_iff.mp e
    have h1 : ((f.now.take (24 + 72 * rs.length)).drop (24 + 72 * i)).take 72 = ((headB rs.length ν' pc ++ recsB ν' rs).drop (24 + 72 * i)).take 72 := by rw [h]
    rw [List.drop_take, List.take_take, Nat.min_eq_left (by rw [Nat.add_sub_add_left, ← Nat.mul_sub]; exact Nat.le_mul_of_pos_right 72 (Nat.sub_pos_of_lt hi)), ← List.drop_drop (l := headB _ _ _ ++ _), List.drop_left' (headB_len ..)] at h1
    rw [sl_nat, h1]
    exact fl_at (fun b hb => by obtain ⟨r, hr', rfl⟩ := List.mem_map.mp hb; rw [recB_len, (hr r hr').len]) (by rw [List.getElem?_map, e]; rfl)
  refine call_of rfl ⟨_, .fn _ _ _ _ _ hj0 rfl rfl, c_rh1 H hj hf hs hd (by lia) hν (by lia) ⟨Nat.le_of_ble_eq_true rfl, _, .is _, _, .tup _ _ _ (Nat.le_of_ble_eq_true rfl) rfl, _, .eqI _ _, ?_⟩⟩
  rw [decide_eq_false (show ¬(rs.length : Int) = 4294967295 by lia)]
  refine ⟨_, .inl rfl, ⟨rfl, by decide, tgt_ok 12 rfl rfl⟩, _, .fn _ _ _ _ _ hj0 rfl rfl, c_jf H hj0 hf ⟨Nat.le_of_ble_eq_true rfl, _, .one _ (by exact ⟨Int.natCast_nonneg _, Int.ofNat_le.mpr (Nat.le_trans (by assumption) (Nat.le_of_ble_eq_true rfl))⟩), ?_⟩⟩
  refine loop_inv (fun (i : Nat) ρ σ' => (∃ a b c e, ρ = [some (.ref j), some (.ref fb), some (.tup [.int rs.length, .int ν', .int pc, .int 64]), some (.int rs.length), some (.int ν'), some (.int pc), some (.int 64), some (.ref fj), a, b, c, e]) ∧
    ∃ s', DiskAt R σ' d fb fj ⟨plays D.db (rs.take i), some f, s', D.cr⟩) (fun u_ u_ u_ u_ => trivial) (fun i v ρ σ' K hv hI kn u_ u_ => ?_) (fun ρ σ' hI => ?_) ⟨⟨_, _, _, _, rfl⟩, D.st, hf ▸ H⟩
  · refine foldg fun G0 fin0 => ?_
    obtain ⟨⟨a, b, c, e, rfl⟩, s', H1⟩ := hI
    obtain ⟨hi, rfl⟩ := rngL_at hv
    obtain ⟨r, er⟩ : ∃ r, rs[i]? = some r := ⟨_, List.getElem?_eq_getElem hi⟩
    have ok := hr r (List.mem_of_getElem? er)
    have h1 := ok.lo
    have h2 := ok.hi
    have F := focusJ H1 rfl
    have B := focusB H1
    obtain ⟨e1, e2, e3⟩ := recB_num (ν := ν') (p := r.1) ok.len
    refine fin0 ?_
    have er1 : (24 + (i : Int) * (64 + 8)) = ((24 + 72 * i : Nat) : Int) := by rw [Nat.mul_comm 72 i]; rfl
    refine ⟨Nat.le_of_ble_eq_true rfl, _, (F.sel rfl fun u_ u_ u_ u_ u_ => rfl), _, .addI _ _, _, .mulI _ _ (mul_small (by lia)), _, .addI _ _, _, .addI _ _, ?_⟩
    refine rwg er1 ?_
    refine d_read (i := 24 + 72 * i) (n := 72) F hs ?_
    refine rwg (rec_at er) ?_
    have hl := recB_len ν' r.1 r.2
    rw [ok.len] at hl
    refine ⟨Nat.le_of_ble_eq_true rfl, c_gn (by lia) (by rw [e1, big_len]; exact Nat.le_of_ble_eq_true rfl) ?_⟩
    refine rwg e1 ?_
    refine rwg (ofBig_bigOf (by lia)) ?_
    refine ⟨Nat.le_of_ble_eq_true rfl, _, .addI _ _, _, .bytes _ (by lia), Nat.le_of_ble_eq_true rfl, ?_⟩
    refine rwg e2 ?_
    refine ⟨_, .lenB _ (by lia), _, .addI _ _, _, .lt _ _, ?_⟩
    refine rwg hl ?_
    refine ⟨_, .addI _ _, c_gn (by lia) (by rw [e3, big_len]; exact Nat.le_of_ble_eq_true rfl) ?_⟩
    refine rwg e3 ?_
    refine rwg (ofBig_bigOf (recSum_range ..)) ?_
    refine (c_rs ok.len ⟨_, .neI _ _, ?_⟩)
    refine rwg (decide_eq_false fun h => h rfl) ?_
    refine ⟨_, .le _ _, ?_⟩
    refine rwg (decide_eq_true (show (1 : Int) ≤ (r.1 : Nat) by exact Int.ofNat_le.mpr (by assumption))) ?_
    refine ⟨_, .le _ _, ?_⟩
    refine rwg (decide_eq_true (show ((r.1 : Nat) : Int) ≤ pc by exact Int.ofNat_le.mpr (by assumption))) ?_
    refine ⟨_, (B.sel rfl fun u_ u_ u_ u_ u_ => rfl), _, .subI _ _, _, .mulI _ _ (mul_small (by lia)), ?_⟩
    refine rwg (show (((r.1 : Nat) : Int) - 1) * 64 = (((r.1 - 1) * 64 : Nat) : Int) from congrArg (· * 64) (Int.ofNat_sub h1).symm) ?_
    refine d_write (i := (r.1 - 1) * 64) B (hsm' i) ⟨Nat.le_trans (Nat.mul_le_mul_right 64 (Nat.le_trans (Nat.sub_le _ _) (Nat.le_trans h2 hp))) (Nat.le_of_ble_eq_true rfl), by rw [ok.len]; exact Nat.le_of_ble_eq_true rfl⟩ (fun σ'' hk H5 => ⟨trivial, kn _ _ ⟨⟨_, _, _, _, rfl⟩, s' + 1, ?_⟩⟩) fun k ek u_ => x_of (hX _ _ k _ ek (.inl ⟨i, rfl⟩) H1)
    rw [plays_snoc _ _ er]; exact H5
  · refine foldg fun G0 fin0 => ?_
    obtain ⟨⟨a, b, c, e, rfl⟩, s', H1⟩ := hI
    refine fin0 ?_
    have el : (rngL ((rs.length : Nat) : Int)).length = rs.length := by unfold rngL; simp
    rw [el, List.take_length] at H1
    have B := focusB H1
    have sm := hsm rs.length
    have sm' := hsm' rs.length
    rw [List.take_length] at sm sm'
    have fin : ∀ (g : AF) s' σ' (ρ : Loc), g = dbEnd (plays D.db rs) pc → g.Small → ρ[1]? = some (some (.ref fb)) → DiskAt R σ' d fb fj ⟨g, some f, s', D.cr⟩ → wSs (wCall tab (m + 5)) [.expr (.meth (.x 1) "sync" [])] ρ σ' (fun fl u_ σ => wRet fl σ Q) fun u_ σ => wLess σ X := fun g s' σ' ρ eg hg hρ H2 => by
      have B := focusB H2
      refine locP_i hρ ⟨_, (B.sel rfl fun u_ u_ u_ u_ u_ => rfl), d_sync B hg (fun σ'' hk H5 => ⟨trivial, ret_none (hQ _ _ hk (eg ▸ H5))⟩) fun k ek u_ => x_of (hX _ _ k _ ek (.inr eg) H2)⟩
    refine ⟨_, (B.sel rfl fun u_ u_ u_ u_ u_ => rfl), d_size B sm' ⟨_, .mulI _ _ (mul_small (by lia)), _, .neI _ _, ?_⟩⟩
    by_cases q : ((plays D.db rs).now.length : Int) = pc * 64
    · refine rwg (decide_eq_false fun h => h q) ?_
      exact fin _ _ _ _ (by unfold dbEnd; rw [if_pos (Int.ofNat.inj q)]) sm' rfl H1
    · refine rwg (decide_eq_true q) ?_
      have eg : (plays D.db rs).trunc (pc * 64) = dbEnd (plays D.db rs) pc := by unfold dbEnd; rw [if_neg fun w => q (congrArg Int.ofNat w)]
      refine ⟨_, (B.sel rfl fun u_ u_ u_ u_ u_ => rfl), _, .mulI _ _ (mul_small (by lia)), ?_⟩
      refine rwg (show ((pc : Int) * 64) = ((pc * 64 : Nat) : Int) by exact rfl) ?_
      refine d_trunc B sm' (Nat.le_trans (Nat.mul_le_mul_right 64 hp) (Nat.le_of_ble_eq_true rfl)) (fun σ'' hk H5 => ⟨trivial, fin _ _ _ _ eg ⟨?_, ?_⟩ rfl H5⟩) fun k ek u_ => x_of (hX _ _ k _ ek (.inl ⟨rs.length, by rw [List.take_length]⟩) H1)
      · show (cutTo _ _).length ≤ _
        unfold cutTo
        split
        · rw [List.length_take]; exact Nat.le_trans (Nat.le_trans (Nat.min_le_right _ _) (And.left (by assumption))) (Nat.le_of_ble_eq_true rfl)
        · rw [List.length_append, List.length_replicate, Nat.add_sub_cancel' (Nat.le_of_not_lt (by assumption))]; exact Nat.le_trans (Nat.mul_le_mul_right 64 hp) (Nat.le_of_ble_eq_true rfl)
      · show ((plays D.db rs).pend ++ [_]).length ≤ _
        refine rwg List.length_append ?_
        exact Nat.succ_le_succ sm.2
end
end Mine
end
section
namespace Mine
noncomputable def SrcO (o : O) : Prop := ∃ a b : Int, o = .list [.int a, .int b] ∧ 0 ≤ a ∧ 0 ≤ b ∧ b < 2147483647
section
variable {σ : Store} {sa : Addr} {o : O} {Q : V → Store → Prop} {X : Store → Prop} {m : Nat} {call : CallT}
theorem by_pylong {a t : Int} (h : 0 < t ∧ t ≤ 100000) : Builtin.divisionGoesByPylong a t = false := by
  unfold Builtin.divisionGoesByPylong
  have h1 : (t == 0) = false := by rw [beq_eq_false_iff_ne]; omega
  have h2 : t.natAbs.log2 < 64 := Nat.log2_lt (by omega) |>.mpr (by omega)
  simp only [h1, Bool.and_eq_false_iff, decide_eq_false_iff_not]
  left
  show ¬(t.natAbs.log2 / 30 + 1 > 300)
  omega
theorem c_take {t : Int} (h : σ sa = some o) (ho : SrcO o) (ht : 1 ≤ t ∧ t ≤ 100000) (hQ : ∀ v o', SrcO o' → 0 ≤ v ∧ v < t → Q (.int v) (σ.set sa o')) : wCall tab (m + 1) .lTake [.ref sa, .int t] σ Q X := by
  refine foldg fun G0 fin0 => ?_
  obtain ⟨a, b, rfl, ha, hb, hb'⟩ := ho
  refine fin0 ?_
  have lt : ∀ n k, Nat.ble n k = true → n ≤ k := fun n k h => Nat.le_of_ble_eq_true h
  refine call_of rfl ⟨_, .cell _ _ _ _ h (lt _ _ rfl) rfl, _, .gt _ _, ?_⟩
  by_cases q : 0 < a
  · refine rwg (decide_eq_true q) ?_
    refine ⟨_, .cell _ _ _ _ h (lt _ _ rfl) rfl, _, .modI _ _ (by omega), lt _ _ rfl, ?_⟩
    refine ⟨_, .cell _ _ _ _ h (lt _ _ rfl) rfl, _, .divI _ _ (by omega) (by_pylong (by exact (by assumption))), _, .list _ _ _ _ h (show (0 : Int) ≤ 0 ∧ (0 : Int) < (2 : Nat) ∧ 2 ≤ 1000 by decide), ret_of (hQ _ _ ⟨_, _, rfl, ?_, hb, hb'⟩ ⟨Int.fmod_nonneg_of_pos _ (by exact (And.left (by assumption))), Int.fmod_lt_of_pos _ (by exact (And.left (by assumption)))⟩)⟩
    refine rwg (Int.fdiv_eq_ediv_of_nonneg _ (by exact Int.le_of_lt (And.left (by assumption)))) ?_
    exact Int.ediv_nonneg ha (by exact Int.le_of_lt (And.left (by assumption)))
  · refine rwg (decide_eq_false q) ?_
    refine ⟨_, .cell _ _ _ _ h (lt _ _ rfl) rfl, _, .mulI _ _ (.of_right (intBits_le_64 (by exact Int.natCast_nonneg _) (by exact Int.natCast_nonneg _))), _, .addI _ _, _, .modI _ _ (by decide), _, .list _ _ _ _ h (show (0 : Int) ≤ 1 ∧ (1 : Int) < (2 : Nat) ∧ 2 ≤ 1000 by decide), ?_⟩
    have h1 := Int.fmod_nonneg_of_pos (b * 39373 + 7) (b := 2147483647) (by decide)
    have h2 := Int.fmod_lt_of_pos (b * 39373 + 7) (b := 2147483647) (by decide)
    refine ⟨_, .cell _ _ _ _ (Store.self ..) (lt _ _ rfl) rfl, _, .cell _ _ _ _ (Store.self ..) (lt _ _ rfl) rfl, _, .mulI _ _ (.of_right (intBits_le_64 (by omega) (by exact Int.le_trans (by assumption) (Int.ofNat_le.mpr (Nat.le_of_ble_eq_true rfl))))), _, .modI _ _ (by decide), _, .divI _ _ (by decide) (by_pylong (by decide)), _, .modI _ _ (by omega),
      ret_of (hQ _ _ ⟨a, _, rfl, ha, h1, h2⟩ ⟨Int.fmod_nonneg_of_pos _ (by exact (And.left (by assumption))), Int.fmod_lt_of_pos _ (by exact (And.left (by assumption)))⟩)⟩
theorem rep_len (n : Nat) (x : UInt8) : (List.replicate n [x]).flatten.length = n := by
  rw [fl_len (k := 1) fun b hb => by rw [List.eq_of_mem_replicate hb]; rfl, List.length_replicate, Nat.one_mul]
theorem c_page (h : σ sa = some o) (ho : SrcO o) (hQ : ∀ (p : Bs) o', SrcO o' → p.length = 64 → Q (.bytes p) (σ.set sa o')) : wCall tab (m + 2) .lPage [.ref sa] σ Q X := by
  refine call_of rfl (c_take h ho (by decide) fun v o1 ho1 hv => ⟨Nat.le_of_ble_eq_true rfl, _, .bytesL _ hv, _, .mulB _ _ ⟨by decide, by decide, Nat.le_of_ble_eq_true rfl, (List.cons_ne_nil _ _)⟩, ?_⟩)
  refine (c_take (Store.self ..) ho1 (by decide) fun v' o2 ho2 hv' => ⟨Nat.le_of_ble_eq_true rfl, _, .bytesL _ hv', _, .mulB _ _ ⟨by decide, by decide, Nat.le_of_ble_eq_true rfl, (List.cons_ne_nil _ _)⟩, _, .addB _ _ ?_, ret_of ?_⟩)
  · show (List.replicate 40 _).flatten.length + (List.replicate 24 _).flatten.length ≤ _
    rw [rep_len, rep_len]; exact Nat.le_of_ble_eq_true rfl
  · rw [Store.set_set]
    refine hQ _ _ ho2 ?_
    show ((List.replicate 40 _).flatten ++ (List.replicate 24 _).flatten).length = _
    rw [List.length_append, rep_len, rep_len]
theorem acc_inv {turn : V → Store → (Option V → Store → Prop) → Prop} {vs : List V} {Q : List V → Store → Prop} (I : Nat → List V → Store → Prop)
    (step : ∀ i v acc σ (K : Option V → Store → Prop), vs[i]? = some v → I i acc σ → (∀ r σ', I (i + 1) (keepOne acc r) σ' → K r σ') → turn v σ K) (fin : ∀ acc σ, I vs.length acc σ → Q acc σ) (h0 : I 0 [] σ) : wAcc turn vs [] σ Q := by
  have main : ∀ n i acc σ, n = vs.length - i → i ≤ vs.length → I i acc σ → wAcc turn (vs.drop i) acc σ Q := fun n => by
    induction n with
    | zero =>
      intro i acc σ hn hi h
      refine rwg (List.drop_eq_nil_of_le (by lia)) ?_
      have : i = vs.length := by lia
      subst this
      exact fin _ _ h
    | succ n ih =>
      intro i acc σ hn hi h
      have hlt : i < vs.length := by lia
      refine rwg (List.drop_eq_getElem_cons hlt) ?_
      exact step i vs[i] acc σ _ (List.getElem?_eq_getElem hlt) h fun r σ' h' => ih (i + 1) _ σ' (by lia) hlt h'
  exact main _ 0 [] σ rfl (Nat.zero_le _) h0
theorem c_choices (h : σ sa = some o) (ho : SrcO o) (hQ : ∀ (ns : List Int) o', SrcO o' → (∀ n ∈ ns, 0 ≤ n ∧ n < 24) → ns.length = 9 → Q (.list (ns.map .int)) (σ.set sa o')) : wCall tab (m + 2) .lChoices [.ref sa] σ Q X := by
  refine call_of rfl ⟨_, .one 9 (by decide), Nat.le_of_ble_eq_true rfl, ?_⟩
  refine acc_inv (fun i acc σ' => ∃ ns : List Int, acc = ns.map .int ∧ ns.length = i ∧ (∀ n ∈ ns, 0 ≤ n ∧ n < 24) ∧ ∃ o', SrcO o' ∧ σ' = σ.set sa o') (fun i v acc σ' K hv hI hK => ?_) (fun acc σ' hI => ?_) ⟨[], rfl, rfl, (List.forall_mem_nil _), o, ho, (Store.same h).symm⟩
  · refine foldg fun G0 fin0 => ?_
    obtain ⟨ns, rfl, hl, hns, o', ho', rfl⟩ := hI
    refine fin0 ?_
    refine (c_take (Store.self ..) ho' (by decide) fun v o2 ho2 hv => hK _ _ ⟨ns ++ [v], by rw [List.map_append]; rfl, by rw [List.length_append, hl]; rfl, fun n hn => ?_, o2, ho2, Store.set_set ..⟩)
    rcases List.mem_append.mp hn with hn | hn
    · exact hns n hn
    · rw [List.mem_singleton.mp hn]; exact hv
  · refine foldg fun G0 fin0 => ?_
    obtain ⟨ns, rfl, hl, hns, o', ho', rfl⟩ := hI
    refine fin0 ?_
    have : ns.length = 9 := hl
    exact ⟨by rw [List.length_map, this]; exact Nat.le_of_ble_eq_true rfl, ret_of (hQ _ _ ho' hns this)⟩
end
end Mine
end
section
namespace Mine
section
variable {σ : Store} {sa : Addr} {o : O} {Q : V → Store → Prop} {X : Store → Prop} {m : Nat} {call : CallT}
open PySem.Builtin.Int in
theorem c_pool {ns : List Int} (hb : ∀ n ∈ ns, intBits n ≤ 1048576) (hl : ns.length ≤ 63) (hQ : ∀ a o', σ a = none → SrcO o' → Q (.ref a) (σ.set a o')) : wCall tab (m + 1) .lPool [.list (ns.map .int)] σ Q X := by
  refine call_of rfl ⟨Nat.le_of_ble_eq_true rfl, _, .inl rfl, ⟨rfl, by decide, tgt_ok 5 rfl rfl⟩, _, _, .list _, by rw [List.length_map]; exact Nat.le_trans (by assumption) (Nat.le_of_ble_eq_true rfl), ?_⟩
  refine loop_inv (fun (i : Nat) ρ σ' => σ' = σ ∧ ∃ (dg mx : Int) (x y : Option V), ρ = [some (.list (ns.map .int)), some (.int dg), some (.int mx), x, y] ∧ 0 ≤ dg ∧ intBits dg ≤ i * 1048577 ∧ 0 ≤ mx ∧ mx < 2147483647) (fun u_ u_ u_ u_ => trivial) (fun i v ρ σ' K hv hI kn u_ u_ => ?_) (fun ρ σ' hI => ?_) ⟨rfl, 0, 29, _, _, rfl, by decide, by decide, by decide, by decide⟩
  · refine foldg fun G0 fin0 => ?_
    obtain ⟨rfl, dg, mx, x, y, rfl, hd, hdb, hm, hm'⟩ := hI
    rw [List.getElem?_map] at hv
    obtain ⟨n, hn, rfl⟩ := Option.map_eq_some_iff.mp hv
    refine fin0 ?_
    have hi : i < ns.length := (List.getElem?_eq_some_iff.mp hn).1
    have bn := hb n (List.mem_of_getElem? hn)
    have rest : ∀ sz : Int, 0 ≤ sz → intBits sz ≤ 1048576 → wSs (wCall tab m) ((tab .lPool).body.drop 1 |>.head?.elim [] fun s => match s with | .for_ _ _ b => b.drop 1 | _ => []) [some (.list (ns.map .int)), some (.int dg), some (.int mx), some (.int n), some (.int sz)] σ' K fun u_ σ => wLess σ X := fun sz h0 hs => by
      refine ⟨_, .powI _ _ (.inl ⟨rfl, rfl⟩), _, .ge _ _, ?_⟩
      have fin : ∀ dg' : Int, 0 ≤ dg' → intBits dg' ≤ (i + 1) * 1048577 → wSs (wCall tab m) ((tab .lPool).body.drop 1 |>.head?.elim [] fun s => match s with | .for_ _ _ b => b.drop 2 | _ => []) [some (.list (ns.map .int)), some (.int dg'), some (.int mx), some (.int n), some (.int sz)] σ' K fun u_ σ => wLess σ X := fun dg' h1 h2 =>
        ⟨_, .mulI _ _ (mul_small (by decide)), _, .modI _ _ (by decide), _, .addI _ _, _, .addI _ _, _, .modI _ _ (by decide), Nat.le_of_ble_eq_true rfl, kn _ _ ⟨rfl, dg', _, _, _, rfl, h1, h2, Int.fmod_nonneg_of_pos _ (by decide), Int.fmod_lt_of_pos _ (by decide)⟩⟩
      by_cases q : (10 : Int) ^ (18 : Int).toNat ≤ sz
      · refine rwg (decide_eq_true q) ?_
        refine ⟨_, .mulI _ _ (.of_le hdb hs (by lia)), _, .addI _ _, Nat.le_of_ble_eq_true rfl, fin _ (Int.add_nonneg (Int.mul_nonneg hd h0) h0) ?_⟩
        have := intBits_add_le (intBits_mul_le hdb hs) hs
        lia
      · refine rwg (decide_eq_false q) ?_
        exact fin dg hd (Nat.le_trans hdb (Nat.mul_le_mul_right _ (Nat.le_succ i)))
    refine ⟨Nat.le_of_ble_eq_true rfl, _, .ge _ _, ?_⟩
    by_cases q : (0 : Int) ≤ n
    · refine rwg (decide_eq_true q) ?_
      exact ⟨Nat.le_of_ble_eq_true rfl, rest n q bn⟩
    · refine rwg (decide_eq_false q) ?_
      exact ⟨_, .subI _ _, Nat.le_of_ble_eq_true rfl, rest (-1 - n) (by lia) (intBits_le_of_natAbs (by lia) bn)⟩
  · refine foldg fun G0 fin0 => ?_
    obtain ⟨rfl, dg, mx, x, y, rfl, hd, hdb, hm, hm'⟩ := hI
    refine fin0 ?_
    exact ⟨Nat.le_of_ble_eq_true rfl, fun a ha => ret_of (hQ a _ ha ⟨dg, mx, rfl, hd, hm, hm'⟩)⟩
end
end Mine
end
section
namespace Mine
noncomputable def lotV (l : List Nat) : V := .list (l.map fun (n : Nat) => V.int (n : Int))
noncomputable def pgV (ps : List Bs) : V := .list (ps.map .bytes)
theorem take1_eq {α : Type} (L : List α) (i : Nat) : (L.drop i).take 1 = L[i]?.toList := by
  by_cases h : i < L.length
  · rw [List.drop_eq_getElem_cons h, List.getElem?_eq_getElem h]; rfl
  · rw [List.drop_eq_nil_of_le (by lia), List.getElem?_eq_none (by lia)]; rfl
theorem take1_inj {α : Type} {L L' : List α} {i : Nat} (h : (L.drop i).take 1 = (L'.drop i).take 1) : L[i]? = L'[i]? := by
  rw [take1_eq, take1_eq] at h
  cases h1 : L[i]? <;> cases h2 : L'[i]? <;> rw [h1, h2] at h
  · cases h
  · cases h
  · cases h; rfl
structure Chg where
  old : List Bs
  new : List Bs
  l1 : List Nat
  l2 : List Nat
noncomputable def Chg.v (c : Chg) : V := .tup [pgV c.old, pgV c.new, .list [lotV c.l1, lotV c.l2]]
structure Chg.Ok (c : Chg) : Prop where
  old64 : ∀ b ∈ c.old, b.length = 64
  new64 : ∀ b ∈ c.new, b.length = 64
  olen : 1 ≤ c.old.length ∧ c.old.length ≤ 6
  nlen : 1 ≤ c.new.length ∧ c.new.length ≤ c.old.length + 1
  cov : ∀ i : Nat, c.old[i]? ≠ c.new[i]? → i + 1 ∈ c.l1 ++ c.l2
  pos : ∀ p ∈ c.l1 ++ c.l2, 1 ≤ p ∧ p ≤ 7
  few : (c.l1 ++ c.l2).length ≤ 7
noncomputable def Linked : List Bs → List Chg → Prop
  | _, [] => True
  | a, c :: cs => c.old = a ∧ Linked c.new cs
theorem Linked.snoc {c : Chg} {cs : List Chg} : ∀ {a : List Bs}, Linked a cs → c.old = (cs.getLast?.elim a Chg.new) → Linked a (cs ++ [c]) := by
  induction cs with
  | nil => exact fun u_ h => ⟨h, trivial⟩
  | cons b cs ih =>
    intro a l h
    refine ⟨l.1, ih l.2 (rwg h ?_)⟩
    cases cs with
    | nil => rfl
    | cons b' cs =>
      refine rwg (List.getLast?_cons_cons) ?_
      cases q : (b' :: cs).getLast? with
      | none => cases List.getLast?_eq_none_iff.mp q
      | some x => rfl
section
variable {R σ : Store} {sa : Addr} {o : O} {Q : V → Store → Prop} {X : Store → Prop} {m : Nat} {call : CallT}
theorem one_b {v t : Int} (h : 0 ≤ v ∧ v < t) (ht : t ≤ 90000) : -100000 ≤ 1 + v ∧ 1 + v ≤ 100000 := by lia
theorem c_changes (H : Has R σ [(sa, o)]) (ho : SrcO o)
    (hQ : ∀ σ' ca o' first cs, Has R σ' [(sa, o'), (ca, .list (cs.map Chg.v))] → SrcO o' → (∀ c ∈ cs, c.Ok ∧ c.old.length ≤ 5) → Linked first cs → (∀ b ∈ first, b.length = 64) → 1 ≤ first.length ∧ first.length ≤ 3 → 1 ≤ cs.length ∧ cs.length ≤ 2 → Q (.list [pgV first, .ref ca]) σ') :
    wCall tab (m + 3) .lChanges [.ref sa] σ Q X := by
  have take : ∀ {cs : List (Addr × O)} {σ : Store} {o : O} {t : Int} {K : V → Store → Prop} {X : Store → Prop}, Has R σ ((sa, o) :: cs) → SrcO o → 1 ≤ t ∧ t ≤ 100000 → (∀ σ' v o', Has R σ' ((sa, o') :: cs) → SrcO o' → 0 ≤ v ∧ v < t → K (.int v) σ') → wCall tab (m + 2) .lTake [.ref sa, .int t] σ K X := fun {cs σ o t K X} H ho ht hK =>
    c_take (H.get 0 rfl) ho ht fun v o' ho' hv => hK _ v o' (H.sets 0 rfl o') ho' hv
  have page : ∀ {cs : List (Addr × O)} {σ : Store} {o : O} {K : V → Store → Prop} {X : Store → Prop}, Has R σ ((sa, o) :: cs) → SrcO o → (∀ σ' (p : Bs) o', Has R σ' ((sa, o') :: cs) → SrcO o' → p.length = 64 → K (.bytes p) σ') → wCall tab (m + 2) .lPage [.ref sa] σ K X := fun {cs σ o K X} H ho hK =>
    c_page (H.get 0 rfl) ho fun p o' ho' hv => hK _ p o' (H.sets 0 rfl o') ho' hv
  refine call_of rfl (take H ho (by decide) fun σ1 v o1 H1 ho1 hv => ⟨_, .addI _ _, _, .one _ (one_b hv (by decide)), Nat.le_of_ble_eq_true rfl, ?_⟩)
  refine acc_inv (fun i acc σ' => ∃ ps : List Bs, acc = ps.map .bytes ∧ ps.length = i ∧ (∀ b ∈ ps, b.length = 64) ∧ ∃ o', SrcO o' ∧ Has R σ' [(sa, o')]) (fun i v acc σ' K hv hI hK => ?_) (fun acc σ' hI => ?_) ⟨[], rfl, rfl, nofun, o1, ho1, H1⟩
  · refine foldg fun G0 fin0 => ?_
    obtain ⟨ps, rfl, hl, h64, o2, ho2, H2⟩ := hI
    refine fin0 ?_
    refine (page H2 ho2 fun σ3 p o3 H3 ho3 hp => hK _ _ ⟨ps ++ [p], by rw [List.map_append]; rfl, by rw [List.length_append, hl]; rfl, fun b hb => ?_, o3, ho3, H3⟩)
    rcases List.mem_append.mp hb with hb | hb
    · exact h64 b hb
    · rw [List.mem_singleton.mp hb]; exact hp
  refine foldg fun G0 fin0 => ?_
  obtain ⟨first, rfl, hl, f64, o2, ho2, H2⟩ := hI
  refine fin0 ?_
  have fl : 1 ≤ first.length ∧ first.length ≤ 3 := by
    rw [hl]; unfold rngL; rw [List.length_map, List.length_range]; lia
  clear hl H1 ho1 H ho
  refine ⟨by rw [List.length_map]; exact Nat.le_trans fl.2 (Nat.le_of_ble_eq_true rfl), Nat.le_of_ble_eq_true rfl, Nat.le_of_ble_eq_true rfl, fun ca hca => ⟨Nat.le_of_ble_eq_true rfl, _, .inl rfl, ⟨rfl, by decide, tgt_ok 12 rfl rfl⟩, ?_⟩⟩
  have H3 := (H2.new hca (.list [])).pick (L := [_, _]) (cs := []) [1, 0] (by decide) [(sa, o2), (ca, .list [])] rfl
  refine (take H3 ho2 (by decide) fun σ4 v' o4 H4 ho4 hv' => ⟨_, .addI _ _, _, .one _ (one_b hv' (by decide)), ?_⟩)
  have el : (rngL (1 + v')).length = (1 + v').toNat := by unfold rngL; rw [List.length_map, List.length_range]
  refine loop_inv (fun (i : Nat) ρ σ' => ∃ (old : List Bs) (cs : List Chg) (o' : O), (∃ (a b c d e f g h : Option V), ρ = [some (.ref sa), some (pgV old), some (pgV first), some (.ref ca), a, b, c, d, e, f, g, h]) ∧ Has R σ' [(sa, o'), (ca, .list (cs.map Chg.v))] ∧ SrcO o' ∧ (∀ c ∈ cs, c.Ok ∧ c.old.length ≤ 5) ∧ Linked first cs ∧
    old = cs.getLast?.elim first Chg.new ∧ cs.length = i ∧ (∀ b ∈ old, b.length = 64) ∧ 1 ≤ old.length ∧ old.length ≤ 3 + i) (fun u_ u_ u_ u_ => trivial) (fun i v ρ σ' K hv hI kn u_ u_ => ?_) (fun ρ σ' hI => ?_) ⟨first, [], o4, ⟨_, _, _, _, _, _, _, _, rfl⟩, H4, ho4, nofun, trivial, rfl, rfl, f64, fl.1, fl.2⟩
  · refine foldg fun G0 fin0 => ?_
    obtain ⟨old, cs, o5, ⟨a, b, c, d, e, f, g, h, rfl⟩, H5, ho5, hok, hln, ho, hi, o64, hol, hol'⟩ := hI
    refine fin0 ?_
    have hi2 : i < 2 := by
      have := (List.getElem?_eq_some_iff.mp hv).1
      rw [el] at this
      exact Nat.lt_of_lt_of_le this (Int.toNat_le.mpr (Int.add_le_add_left (Int.le_of_lt_add_one (show v' < 1 + 1 from hv'.2)) 1))
    have o4 : old.length ≤ 4 := Nat.le_trans hol' (Nat.add_le_add_left (Nat.le_of_lt_succ hi2) 3)
    refine ⟨Nat.le_of_ble_eq_true rfl, _, ⟨rfl, by rw [List.length_map]; exact Nat.le_trans o4 (Nat.le_of_ble_eq_true rfl)⟩, Nat.le_of_ble_eq_true rfl, ?_⟩
    refine acc_inv (fun i acc σ' => ∃ ps : List Bs, acc = ps.map .bytes ∧ ps.length = i ∧ (∀ b ∈ ps, b.length = 64) ∧ ∃ o', SrcO o' ∧ Has R σ' [(sa, o'), (ca, .list (cs.map Chg.v))]) (fun i v acc σ' K hv hI hK => ?_) (fun acc σ' hI => ?_) ⟨[], rfl, rfl, nofun, o5, ho5, H5⟩
    · refine foldg fun G0 fin0 => ?_
      obtain ⟨ps, rfl, hl, h64, o6, ho6, H6⟩ := hI
      rw [List.getElem?_map] at hv
      obtain ⟨pg, hpg, rfl⟩ := Option.map_eq_some_iff.mp hv
      refine fin0 ?_
      have fin : ∀ (p : Bs) σ' o', SrcO o' → Has R σ' [(sa, o'), (ca, .list (cs.map Chg.v))] → p.length = 64 → K (some (.bytes p)) σ' := fun p σ3 o3 ho3 H3 hp => hK _ _ ⟨ps ++ [p], by rw [List.map_append]; rfl, by rw [List.length_append, hl]; rfl, fun b hb => (List.mem_append.mp hb).elim (h64 b) fun hb => List.mem_singleton.mp hb ▸ hp, o3, ho3, H3⟩
      refine (take H6 ho6 (by decide) fun σ7 v o7 H7 ho7 hv => ⟨_, .eqI _ _, ?_⟩)
      by_cases q : v = 0
      · rw [decide_eq_true q]
        exact (fin pg _ _ ho7 H7 (o64 pg (List.mem_of_getElem? hpg)))
      · rw [decide_eq_false q]
        exact (page H7 ho7 fun σ3 p o3 H3 ho3 hp => fin p _ _ ho3 H3 hp)
    refine foldg fun G0 fin0 => ?_
    obtain ⟨n0, rfl, hnl, n64, o6, ho6, H6⟩ := hI
    refine fin0 ?_
    rw [List.length_map] at hnl
    have n4 : n0.length ≤ 4 := Nat.le_trans (Nat.le_of_eq hnl) o4
    refine ⟨by rw [List.length_map]; exact Nat.le_trans n4 (Nat.le_of_ble_eq_true rfl), Nat.le_of_ble_eq_true rfl, ?_⟩
    refine ⟨_, .lenL _ (by rw [List.length_map]; exact Nat.le_trans n4 (Nat.le_of_ble_eq_true rfl)), _, .subI _ _, take H6 ho6 (by decide) fun σ7 v7 o7 H7 ho7 hv7 => ⟨_, .addI _ _, _, .max _ _, Nat.le_of_ble_eq_true rfl, ?_⟩⟩
    rw [List.length_map]
    obtain ⟨k, hk, ek⟩ : ∃ k : Nat, (1 ≤ k ∧ k ≤ old.length + 1) ∧ (if (1 : Int) < (n0.length : Int) - 1 + v7 then (n0.length : Int) - 1 + v7 else 1) = (k : Int) := by
      split
      · exact ⟨((n0.length : Int) - 1 + v7).toNat, by lia, (Int.toNat_of_nonneg (Int.le_of_lt (Int.lt_trans (show (0 : Int) < 1 by decide) (by assumption)))).symm⟩
      · exact ⟨1, ⟨Nat.le_refl _, Nat.le_add_left 1 _⟩, rfl⟩
    rw [ek]
    refine (page H7 ho7 fun σ8 p o8 H8 ho8 hp => ⟨Nat.le_of_ble_eq_true rfl, _, .addL _ _ (by rw [List.length_map]; exact Nat.le_trans (Nat.succ_le_succ n4) (Nat.le_of_ble_eq_true rfl)), _, .list _ (by rw [List.length_append, List.length_map]; exact Nat.le_trans (Nat.succ_le_succ n4) (Nat.le_of_ble_eq_true rfl)), Nat.le_of_ble_eq_true rfl, ?_⟩)
    obtain ⟨nw, enw⟩ : ∃ nw, nw = (n0 ++ [p]).take k := ⟨_, rfl⟩
    have esl : sl (n0.map V.bytes ++ [V.bytes p]) none (some (k : Int)) = nw.map .bytes := by
      rw [sl_to, enw, List.map_take, List.map_append]; rfl
    rw [esl]
    have nwl : nw.length = k := by rw [enw, List.length_take, List.length_append]; show min k (_ + 1) = k; exact Nat.min_eq_left (by rw [hnl]; exact hk.2)
    have nw64 : ∀ b ∈ nw, b.length = 64 := fun b hb => by
      rw [enw] at hb
      rcases List.mem_append.mp (List.mem_of_mem_take hb) with hb | hb
      · exact n64 b hb
      · rw [List.mem_singleton.mp hb]; exact hp
    have w5 : nw.length ≤ 5 := by rw [nwl]; exact Nat.le_trans hk.2 (Nat.succ_le_succ o4)
    refine ⟨_, .lenL _ (by rw [List.length_map]; exact Nat.le_trans o4 (Nat.le_of_ble_eq_true rfl)), _, .lenL _ (by rw [List.length_map]; exact Nat.le_trans w5 (Nat.le_of_ble_eq_true rfl)), _, .max _ _, ?_⟩
    rw [List.length_map, List.length_map]
    obtain ⟨N, hN, eN⟩ : ∃ N : Nat, (old.length ≤ N ∧ nw.length ≤ N ∧ N ≤ 6) ∧ (if (old.length : Int) < nw.length then (nw.length : Int) else old.length) = (N : Int) := by
      split
      · exact ⟨nw.length, ⟨Int.ofNat_le.mp (Int.le_of_lt (by assumption)), Nat.le_refl _, Nat.le_succ_of_le w5⟩, rfl⟩
      · exact ⟨old.length, ⟨Nat.le_refl _, Int.ofNat_le.mp (Int.not_lt.mp (by assumption)), Nat.le_trans o4 (Nat.le_of_ble_eq_true rfl)⟩, rfl⟩
    rw [eN]
    refine ⟨_, .one _ ⟨Int.le_trans (by decide) (Int.natCast_nonneg _), Int.ofNat_le.mpr (Nat.le_trans hN.2.2 (Nat.le_of_ble_eq_true rfl))⟩, Nat.le_of_ble_eq_true rfl, ?_⟩
    refine acc_inv (fun i acc σ' => σ' = σ8 ∧ ∃ ts : List Nat, acc = ts.map (fun (n : Nat) => V.int (n : Int)) ∧ ts.length ≤ i ∧ (∀ t ∈ ts, 1 ≤ t ∧ t ≤ i) ∧ ∀ j : Nat, j < i → old[j]? ≠ nw[j]? → j + 1 ∈ ts) (fun i v acc σ' K hv hI hK => ?_) (fun acc σ' hI => ?_) ⟨rfl, [], rfl, Nat.le_refl _, nofun, fun j hj => absurd hj (Nat.not_lt_zero j)⟩
    · refine foldg fun G0 fin0 => ?_
      obtain ⟨rfl, ts, rfl, tl, tp, tc⟩ := hI
      obtain ⟨hiN, rfl⟩ := rngL_at hv
      refine fin0 ?_
      refine ⟨_, .addI _ _, _, .list _ (by rw [List.length_map]; exact Nat.le_trans o4 (Nat.le_of_ble_eq_true rfl)), _, .addI _ _, _, .list _ (by rw [List.length_map]; exact Nat.le_trans w5 (Nat.le_of_ble_eq_true rfl)), ?_⟩
      have e1 : ∀ L : List Bs, sl (L.map V.bytes) (some (i : Int)) (some ((i : Int) + 1)) = ((L.drop i).take 1).map .bytes := fun L => (sl_nat _ i 1).trans (by rw [List.map_take, List.map_drop])
      rw [e1, e1]
      refine ⟨_, .neL _ _ (by rw [List.length_take]; exact Nat.min_le_left _ _) (by rw [List.length_take]; exact Nat.min_le_left _ _), ?_⟩
      by_cases q : (old.drop i).take 1 = (nw.drop i).take 1
      · rw [decide_eq_false fun h => h q]
        refine hK _ _ ⟨rfl, ts, rfl, Nat.le_succ_of_le tl, fun t ht => ⟨(tp t ht).1, Nat.le_succ_of_le (tp t ht).2⟩, fun j hj hne => ?_⟩
        by_cases hji : j = i
        · subst hji
          exact absurd (take1_inj q) hne
        · exact tc j (Nat.lt_of_le_of_ne (Nat.le_of_lt_succ hj) hji) hne
      · rw [decide_eq_true q]
        refine ⟨_, .addI _ _, hK _ _ ⟨rfl, ts ++ [i + 1], by rw [List.map_append]; rfl, by rw [List.length_append]; exact Nat.succ_le_succ tl, fun t ht => ?_, fun j hj hne => ?_⟩⟩
        · rcases List.mem_append.mp ht with ht | ht
          · exact ⟨(tp t ht).1, Nat.le_succ_of_le (tp t ht).2⟩
          · rw [List.mem_singleton.mp ht]; exact ⟨Nat.succ_le_succ (Nat.zero_le _), Nat.le_refl _⟩
        · by_cases hji : j = i
          · subst hji; exact List.mem_append_right _ (.head _)
          · exact List.mem_append_left _ (tc j (Nat.lt_of_le_of_ne (Nat.le_of_lt_succ hj) hji) hne)
    refine foldg fun G0 fin0 => ?_
    obtain ⟨rfl, ts, rfl, tl, tp, tc⟩ := hI
    refine fin0 ?_
    have rl : (rngL (N : Int)).length = N := by unfold rngL; rw [List.length_map, List.length_range]; rfl
    rw [rl] at tl tp tc
    have tm : (ts.map fun (n : Nat) => V.int (n : Int)).length = ts.length := List.length_map ..
    have t6 : ts.length ≤ 6 := Nat.le_trans tl hN.2.2
    refine ⟨by rw [tm]; exact Nat.le_trans t6 (Nat.le_of_ble_eq_true rfl), Nat.le_of_ble_eq_true rfl, _, .lenL _ (by rw [tm]; exact Nat.le_trans t6 (Nat.le_of_ble_eq_true rfl)), _, .addI _ _, ?_⟩
    rw [tm]
    refine take H8 ho8 ⟨Int.ofNat_le.mpr (Nat.succ_le_succ (Nat.zero_le ts.length)), Int.ofNat_le.mpr (Nat.le_trans (Nat.succ_le_succ t6) (Nat.le_of_ble_eq_true rfl))⟩ fun σ9 v9 o9 H9 ho9 hv9 => ⟨Nat.le_of_ble_eq_true rfl, ?_⟩
    obtain ⟨ct, rfl⟩ : ∃ ct : Nat, v9 = (ct : Int) := ⟨v9.toNat, (Int.toNat_of_nonneg hv9.1).symm⟩
    refine ⟨_, .append _ _ (H9.get 1 rfl), _, .list _ (by rw [tm]; exact Nat.le_trans t6 (Nat.le_of_ble_eq_true rfl)), _, .list _ (by rw [tm]; exact Nat.le_trans t6 (Nat.le_of_ble_eq_true rfl)), Nat.le_of_ble_eq_true rfl, Nat.le_of_ble_eq_true rfl, ?_⟩
    rw [sl_to, sl_from, ← List.map_take, ← List.map_drop]
    refine ⟨_, .append _ _ _ (H9.get 1 rfl) (by rw [List.length_map]; exact Nat.le_trans (Nat.le_of_eq hi) (Nat.le_trans (Nat.le_of_lt hi2) (Nat.le_of_ble_eq_true rfl))), trivial, Nat.le_of_ble_eq_true rfl, kn _ _ ⟨nw, cs ++ [⟨old, nw, ts.take ct, ts.drop ct⟩], o9, ⟨_, _, _, _, _, _, _, _, rfl⟩, ?_, ho9, fun c hc => ?_, hln.snoc ho, ?_, ?_, nw64, by rw [nwl]; exact hk.1, by rw [nwl]; exact Nat.le_trans hk.2 (Nat.succ_le_succ hol')⟩⟩
    · rw [List.map_append]
      exact H9.sets 1 rfl _
    · rcases List.mem_append.mp hc with hc | hc
      · exact hok c hc
      · rw [List.mem_singleton.mp hc]
        have et : ts.take ct ++ ts.drop ct = ts := List.take_append_drop ct ts
        refine ⟨⟨o64, nw64, ⟨hol, Nat.le_trans o4 (Nat.le_of_ble_eq_true rfl)⟩, (by rw [nwl]; exact hk : 1 ≤ nw.length ∧ nw.length ≤ old.length + 1), fun j hne => ?_, fun p hp => ?_, ?_⟩, Nat.le_succ_of_le o4⟩ <;> dsimp only at * <;> rw [et] at *
        · by_cases hj : j < N
          · exact tc j hj hne
          · exact absurd (by rw [List.getElem?_eq_none (Nat.le_trans hN.1 (Nat.le_of_not_lt hj)), List.getElem?_eq_none (Nat.le_trans hN.2.1 (Nat.le_of_not_lt hj))]) hne
        · exact ⟨(tp p hp).1, Nat.le_trans (tp p hp).2 (Nat.le_succ_of_le hN.2.2)⟩
        · lia
    · rw [List.getLast?_append]; rfl
    · rw [List.length_append, hi]; rfl
  · refine foldg fun G0 fin0 => ?_
    obtain ⟨old, cs, o5, ⟨a, b, c, d, e, f, g, h, rfl⟩, H5, ho5, hok, hln, ho, hi, o64, hol, hol'⟩ := hI
    refine fin0 ?_
    rw [el] at hi
    exact ⟨Nat.le_of_ble_eq_true rfl, ret_of (hQ _ _ _ _ _ H5 ho5 hok hln f64 fl (by lia))⟩
end
end Mine
end
section
namespace Mine
section
variable {R σ : Store} {d fa fb fj a pa na ch : Addr} {D : AD} {o : O} {Q : V → Store → Prop} {X : Store → Prop} {m : Nat} {f : AF} {cs : List (Addr × O)} {p : Addr × O} {ns : List Int}
theorem Has.tail (H : Has R σ (p :: cs)) : Has R σ cs :=
  ⟨(List.nodup_cons.mp H.nd).2, fun q hq => H.at_ q (.tail _ hq), fun q hq => H.off q (.tail _ hq), H.rest⟩
theorem Has.nil (σ : Store) : Has σ σ [] := ⟨.nil, List.forall_mem_nil _, List.forall_mem_nil _, Less.refl σ⟩
theorem new_locks (H : Has R σ cs) (hQ : ∀ σ' lk, Has R σ' cs → Q (.ref lk) σ') : wApp (wCall tab (m + 1)) (.cls .locks) [] σ Q X := by
  intro a ha
  have lt : ∀ n, Nat.ble n 100 = true → n ≤ 100 := fun n h => Nat.le_of_ble_eq_true h
  have nw : ∀ {σ : Store} {o : O} {b : Addr}, Has R σ ((a, o) :: cs) → σ b = none → Has R (σ.set b (.dict [])) ((a, o) :: cs) := fun H h => (H.new h _).tail
  have H1 := H.new ha (.inst .locks [])
  refine call_of rfl fun b hb => ⟨_, .mk _ _ _ _ _ ((nw H1 hb).get 0 rfl) (lt _ rfl), ?_⟩
  have H2 := (nw H1 hb).sets 0 rfl (.inst .locks [("levels", .ref b)])
  refine fun c hc => ⟨_, .mk _ _ _ _ _ ((nw H2 hc).get 0 rfl) (lt _ rfl), ?_⟩
  have H3 := (nw H2 hc).sets 0 rfl (.inst .locks [("levels", .ref b), ("slots", .ref c)])
  refine fun e he => ⟨_, .mk _ _ _ _ _ ((nw H3 he).get 0 rfl) (lt _ rfl), ?_⟩
  have H4 := (nw H3 he).sets 0 rfl (.inst .locks [("levels", .ref b), ("slots", .ref c), ("told_marks", .ref e)])
  exact ⟨_, Less.refl _, hQ _ a H4.tail⟩
theorem e_new_locks {ρ : Loc} (H : Has R σ cs) (hQ : ∀ σ' lk, Has R σ' cs → Q (.ref lk) σ') : wE (wCall tab (m + 1)) (.call (.g "LockTable") []) ρ σ Q X := new_locks H hQ
noncomputable def d0Cells (d fd sh lk : Addr) (s : Int) (c : Option Int) : List (Addr × O) := [(d, dO fd sh lk s c), (fd, .dict [])]
theorem new_disk {A : List V} (hA : ∀ d, (tab .dInit).full (.ref d :: A) = [.ref d, .int 8, .none]) (H : Has R σ cs) (hQ : ∀ σ' d fd sh lk, Has R σ' (d0Cells d fd sh lk 0 none ++ cs) → Q (.ref d) σ') : wApp (wCall tab (m + 2)) (.cls .disk) A σ Q X := by
  intro d hd
  have lt : ∀ n, Nat.ble n 100 = true → n ≤ 100 := fun n h => Nat.le_of_ble_eq_true h
  have H1 := H.new hd (.inst .disk [])
  show wCall tab (m + 2) .dInit _ _ _ _
  refine ⟨by rw [hA]; rfl, ?_⟩
  rw [hA]
  refine ⟨_, .mk _ _ _ _ _ (H1.get 0 rfl) (lt _ rfl), ?_⟩
  have H2 := H1.sets 0 rfl (.inst .disk [("sector", .int 8)])
  refine ⟨_, .mk _ _ _ _ _ (H2.get 0 rfl) (lt _ rfl), ?_⟩
  have H3 := H2.sets 0 rfl (.inst .disk [("sector", .int 8), ("room", .none)])
  refine fun fd hfd => ⟨_, .mk _ _ _ _ _ ((H3.new hfd (.dict [])).get 1 rfl) (lt _ rfl), ?_⟩
  have H4 := (H3.new hfd (.dict [])).sets 1 rfl (.inst .disk [("sector", .int 8), ("room", .none), ("files", .ref fd)])
  refine ⟨_, .mk _ _ _ _ _ (H4.get 1 rfl) (lt _ rfl), ?_⟩
  have H5 := H4.sets 1 rfl (.inst .disk [("sector", .int 8), ("room", .none), ("files", .ref fd), ("steps", .int 0)])
  refine ⟨_, .mk _ _ _ _ _ (H5.get 1 rfl) (lt _ rfl), ?_⟩
  have H6 := H5.sets 1 rfl (.inst .disk [("sector", .int 8), ("room", .none), ("files", .ref fd), ("steps", .int 0), ("crash_at", .none)])
  refine fun sh hsh => ⟨_, .mk _ _ _ _ _ ((H6.new hsh (.dict [])).get 2 rfl) (lt _ rfl), ?_⟩
  have H7 := ((H6.new hsh (.dict [])).sets 2 rfl (.inst .disk [("sector", .int 8), ("room", .none), ("files", .ref fd), ("steps", .int 0), ("crash_at", .none), ("shared", .ref sh)])).tail
  refine w_cons (s_asg' (e_new_locks H7 fun σ' lk H8 => ?_))
  refine ⟨_, .mk _ _ _ _ _ (H8.get 1 rfl) (lt _ rfl), ?_⟩
  have H9 := H8.sets 1 rfl (dO fd sh lk 0 none)
  exact ⟨_, Less.refl _, hQ _ d fd sh lk (H9.pick (L := [_, _]) [1, 0] (by decide) (d0Cells d fd sh lk 0 none) rfl)⟩
theorem d_open0 {fd sh lk : Addr} {s : Int} {c : Option Int} (H : Has R σ (d0Cells d fd sh lk s c)) (hQ : ∀ σ' fb, DiskAt R σ' d fb fb ⟨.new, none, s, c⟩ → Q (.ref fb) σ') : wCall tab (m + 2) .dOpen [.ref d, .str "db"] σ Q X := by
  refine call_of rfl ⟨_, .mk _ _ _ _ _ (H.get 0 rfl) rfl rfl, _, .notIn _ _ _ (H.get 1 rfl), ?_⟩
  refine w_cons (s_asg' (e_new_file rfl rfl H fun σ' fb pb nb H' => ?_))
  refine ⟨_, .mk _ _ _ _ _ (H'.get 3 rfl) rfl rfl, ?_⟩
  refine ⟨_, .dict _ _ _ _ (H'.get 4 rfl) ⟨Nat.le_of_ble_eq_true rfl, rfl⟩, ?_⟩
  have H2 := H'.sets 4 rfl (.dict [("db", .ref fb)])
  refine ⟨_, .mk _ _ _ _ _ (H2.get 3 rfl) rfl rfl, _, .dict _ _ _ _ (H2.get 4 rfl) rfl, ret_of (hQ _ fb ⟨fd, sh, lk, pb, nb, fd, fd, ?_⟩)⟩
  refine rwl (List.append_nil (_ ++ _)) ?_
  exact Has.pick (L := [_, _, _, _, _]) (cs := []) H2 [3, 0, 1, 2, 4] (by decide) (fCells d fd sh lk s c "db" [] fb pb nb [] [] ++ jCells d fb fd fb fd fd none) rfl
theorem c_begun {fd sh lk : Addr} {ps : List Bs} (H : Has R σ (d0Cells d fd sh lk 0 none)) (h64 : ∀ b ∈ ps, b.length = 64) (hl : ps.length ≤ 10) (hQ : ∀ σ' fb, DiskAt R σ' d fb fb ⟨⟨ps.flatten, [], ps.flatten⟩, none, 2, none⟩ → Q (.ref fb) σ') :
    wCall tab (m + 3) .lBegun [.ref d, pgV ps] σ Q X := by
  have fl := fl_len h64
  refine call_of rfl ⟨_, .fn _ _ _ _ _ (H.get 0 rfl) rfl rfl, d_open0 H fun σ1 fb H1 => ⟨Nat.le_of_ble_eq_true rfl, ?_⟩⟩
  have B := focusB H1
  refine ⟨_, (B.sel rfl fun u_ u_ u_ u_ u_ => rfl), _, .join, _, .join ps (by lia), ?_⟩
  refine d_write (i := 0) B AF.new_small (by lia) (fun σ2 u_ H2 => ⟨trivial, ?_⟩) no_some
  have B2 := focusB H2
  have e : put [] 0 ps.flatten = ps.flatten := by unfold put; simp
  have sm : (AF.new.write 0 ps.flatten).Small := ⟨by show (put [] 0 _).length ≤ _; rw [e]; lia, Nat.le_of_ble_eq_true rfl⟩
  refine ⟨_, (B2.sel rfl fun u_ u_ u_ u_ u_ => rfl), d_sync B2 sm (fun σ3 u_ H3 => ⟨trivial, ret_of (hQ _ fb ?_)⟩) no_some⟩
  have e2 : (AF.new.write 0 ps.flatten).sync = ⟨ps.flatten, [], ps.flatten⟩ := by
    show AF.mk (put [] 0 _) [] (put [] 0 _) = _
    rw [e]
  rw [e2] at H3
  exact H3
end
end Mine
end
section
namespace Mine
noncomputable def chO (ns : List Int) (t : Int) : O := .inst .choices [("numbers", .list (ns.map .int)), ("told", .int t)]
inductive SurvOp : Op → Bs → Bs → Prop
  | lost (op : Op) (x : Bs) : SurvOp op x x
  | w (i : Nat) (b : Bs) (k : Nat) (x : Bs) (h : b.take (8 * k) ≠ []) : SurvOp (.w i b) x (put x i (b.take (8 * k)))
  | t (n : Nat) (x : Bs) : SurvOp (.t n) x (cutTo x n)
inductive Surv : List Op → Bs → Bs → Prop
  | nil (x : Bs) : Surv [] x x
  | cons {op : Op} {ps : List Op} {x y z : Bs} : SurvOp op x y → Surv ps y z → Surv (op :: ps) x z
theorem Surv.snoc {op : Op} {y z : Bs} {ps : List Op} {x : Bs} (s : Surv ps x y) : SurvOp op y z → Surv (ps ++ [op]) x z := by
  induction s with
  | nil => exact fun h => .cons h (.nil _)
  | cons h s ih => exact fun h' => .cons h (ih h')
theorem Surv.inv {P : Bs → Prop} {ps : List Op} {x y : Bs} (s : Surv ps x y) : P x → (∀ op ∈ ps, ∀ x y, P x → SurvOp op x y → P y) → P y := by
  induction s with
  | nil => exact fun h u_ => h
  | cons h s ih => exact fun hx hp => ih (hp _ (.head _) _ _ hx h) fun op ho => hp op (.tail _ ho)
noncomputable def Op.Le (N : Nat) : Op → Prop
  | .w i b => i + b.length ≤ N
  | .t n => n ≤ N
theorem cutTo_len (b : Bs) (n : Nat) : (cutTo b n).length = n := by
  unfold cutTo
  split
  · rw [List.length_take]; exact Nat.min_eq_left (Nat.le_of_lt (by assumption))
  · rw [List.length_append, List.length_replicate]; exact Nat.add_sub_cancel' (Nat.le_of_not_lt (by assumption))
theorem SurvOp.len {N : Nat} {op : Op} {x y : Bs} (h : SurvOp op x y) (ho : op.Le N) (hx : x.length ≤ N) : y.length ≤ N := by
  cases h with
  | lost => exact hx
  | w i b k _ _ =>
    have : i + b.length ≤ N := ho
    rw [put_len, List.length_take]; exact Nat.max_le.mpr ⟨hx, Nat.le_trans (Nat.add_le_add_left (Nat.min_le_right _ _) _) this⟩
  | t n => rw [cutTo_len]; exact ho
section
variable {R σ : Store} {d fa fb fj a pa na ch : Addr} {D : AD} {o : O} {Q : V → Store → Prop} {X : Store → Prop} {m : Nat} {f : AF} {cs : List (Addr × O)} {p : Addr × O} {ns : List Int}
theorem new_choices (H : Has R σ cs) (hl : ns.length ≤ 100) (hQ : ∀ σ' ch, Has R σ' ((ch, chO ns 0) :: cs) → Q (.ref ch) σ') : wApp (wCall tab (m + 1)) (.cls .choices) [.list (ns.map .int)] σ Q X := by
  intro a ha
  have lt : ∀ n, Nat.ble n 100 = true → n ≤ 100 := fun n h => Nat.le_of_ble_eq_true h
  have H1 := H.new ha (.inst .choices [])
  refine call_of rfl ⟨_, .list _ (by rw [List.length_map]; exact Nat.le_trans (by assumption) (Nat.le_of_ble_eq_true rfl)), _, .mk _ _ _ _ _ (H1.get 0 rfl) (lt _ rfl), ?_⟩
  have H2 := H1.sets 0 rfl (.inst .choices [("numbers", .list (ns.map .int))])
  exact ⟨_, .mk _ _ _ _ _ (H2.get 0 rfl) (lt _ rfl), _, Less.refl _, hQ _ a (H2.sets 0 rfl (chO ns 0))⟩
theorem c_next {t : Int} (h : σ ch = some (chO ns t)) (hn : ns ≠ [] ∧ ns.length ≤ 100) (hQ : ∀ n t', n ∈ ns → Q (.int n) (σ.set ch (chO ns t'))) : wCall tab (m + 1) .cFollowing [.ref ch] σ Q X := by
  have hm : (ns.map V.int).length = ns.length := List.length_map ..
  have hp : 0 < ns.length := List.length_pos_iff.mpr hn.1
  refine call_of rfl ⟨_, .mk _ _ _ _ _ h rfl rfl, Nat.le_of_ble_eq_true rfl, _, .eqL ns [], ?_⟩
  refine rwg (decide_eq_false hn.1) ?_
  have b1 := Int.fmod_nonneg_of_pos t (b := ns.length) (by exact Int.ofNat_le.mpr (by assumption))
  have b2 := Int.fmod_lt_of_pos t (b := ns.length) (by exact Int.ofNat_le.mpr (by assumption))
  obtain ⟨k, hk⟩ : ∃ k : Nat, Int.fmod t ns.length = (k : Int) := ⟨(Int.fmod t ns.length).toNat, (Int.toNat_of_nonneg b1).symm⟩
  have hkl : k < ns.length := by lia
  have e : (seqIndex? (k : Int) (ns.map V.int).length).bind ((ns.map V.int)[·]?) = some (.int ns[k]) := by
    rw [hm]
    unfold seqIndex?
    have h1 : ¬ (k : Int) < 0 := Int.not_lt.mpr (Int.natCast_nonneg _)
    have h2 : (decide ((0 : Int) ≤ k) && decide ((k : Int) < ns.length)) = true := by rw [Bool.and_eq_true, decide_eq_true_eq, decide_eq_true_eq]; exact ⟨Int.natCast_nonneg _, Int.ofNat_le.mpr (by assumption)⟩
    simp only [if_neg h1, h2, if_true, Option.bind_some, Int.toNat_natCast]
    rw [List.getElem?_map, List.getElem?_eq_getElem hkl]; rfl
  refine ⟨_, .mk _ _ _ _ _ h rfl rfl, _, .mk _ _ _ _ _ h rfl rfl, _, .mk _ _ _ _ _ h rfl rfl, _, .lenL _ (by exact Nat.le_trans (Nat.le_trans (Nat.le_of_eq (by assumption)) (And.right (by assumption))) (Nat.le_of_ble_eq_true rfl)), _, .modI _ _ (by lia), ?_⟩
  refine rwg hm ?_
  refine rwg hk ?_
  refine ⟨_, .list _ _ _ (by exact Nat.le_trans (Nat.le_trans (Nat.le_of_eq (by assumption)) (And.right (by assumption))) (Nat.le_of_ble_eq_true rfl)) e, Nat.le_of_ble_eq_true rfl, _, .mk _ _ _ _ _ h rfl rfl, _, .mk _ _ _ _ _ h (Nat.le_of_ble_eq_true rfl), ret_of (hQ _ _ (List.getElem_mem hkl))⟩
theorem c_surv {sy : Bs} {ps : List Op} {t : Int} {nm : String} (H : Has R σ ((ch, chO ns t) :: cs)) (hf : R fa = some (fO d nm sy pa na)) (hp : R pa = some (.list (ps.map Op.v))) (hn : ns ≠ [] ∧ ns.length ≤ 100) (hns : ∀ n ∈ ns, 0 ≤ n ∧ n < 24)
    (hl : sy.length ≤ 10000 ∧ ∀ op ∈ ps, op.Le 10000) (hpl : ps.length ≤ 1000) (hQ : ∀ σ' la x t', Surv ps sy x → x.length ≤ 10000 → Has R σ' ((la, .ba x) :: (ch, chO ns t') :: cs) → Q (.ref la) σ') : wCall tab (m + 2) .fSurviving [.ref fa, .ref ch, .int 8] σ Q X := by
  have lt : ∀ n k, Nat.ble n k = true → n ≤ k := fun n k h => Nat.le_of_ble_eq_true h
  refine call_of rfl ⟨_, .mk _ _ _ _ _ (H.r hf) rfl rfl, _, .ba1 _ (by exact Nat.le_trans (And.left (by assumption)) (Nat.le_of_ble_eq_true rfl)), fun la hla => ⟨lt _ _ rfl, ?_⟩⟩
  have H1 := H.new hla (.ba sy)
  refine ⟨_, .mk _ _ _ _ _ (H1.r hf) rfl rfl, _, _, .cell _ _ (H1.r hp), by rw [List.length_map]; exact Nat.le_trans (by assumption) (Nat.le_of_ble_eq_true rfl), ?_⟩
  refine loop_inv (fun (i : Nat) ρ σ' => ∃ (x : Bs) (t' : Int), (∃ (a b c d e f : Option V), ρ = [some (.ref fa), some (.ref ch), some (.int 8), some (.ref la), a, b, c, d, e, f]) ∧ Surv (ps.take i) sy x ∧ x.length ≤ 10000 ∧ Has R σ' ((la, .ba x) :: (ch, chO ns t') :: cs))
    (fun i ρ σ' hI => ?_) (fun i v ρ σ' K hv hI kn kc u_ => ?_) (fun ρ σ' hI => ?_) ⟨sy, t, ⟨_, _, _, _, _, _, rfl⟩, .nil _, hl.1, H1⟩
  · refine foldg fun G0 fin0 => ?_
    obtain ⟨x, t', _, _, _, H2⟩ := hI
    refine fin0 ?_
    exact H2.r hp
  · refine foldg fun G0 fin0 => ?_
    obtain ⟨x, t', ⟨a, b, c, e, f, g, rfl⟩, hs, hx, H2⟩ := hI
    rw [List.getElem?_map] at hv
    obtain ⟨op, hop, rfl⟩ := Option.map_eq_some_iff.mp hv
    refine fin0 ?_
    have hle := hl.2 op (List.mem_of_getElem? hop)
    have et : ps.take (i + 1) = ps.take i ++ [op] := by rw [List.take_add_one, hop]; rfl
    have next : ∀ {σ' : Store} {y : Bs} {t' : Int}, Has R σ' ((la, .ba y) :: (ch, chO ns t') :: cs) → SurvOp op x y → ∀ a b c d e f : Option V, ∃ (y : Bs) (t' : Int), (∃ (a' b' c' d' e' f' : Option V), [some (.ref fa), some (.ref ch), some (.int 8), some (.ref la), a, b, c, d, e, f] = [some (.ref fa), some (.ref ch), some (.int 8), some (.ref la), a', b', c', d', e', f']) ∧ Surv (ps.take (i + 1)) sy y ∧ y.length ≤ 10000 ∧ Has R σ' ((la, .ba y) :: (ch, chO ns t') :: cs) :=
      fun {σ' y t'} H so a b c d e f => ⟨y, t', ⟨_, _, _, _, _, _, rfl⟩, et ▸ hs.snoc so, so.len hle hx, H⟩
    have num : ∀ {ρ : Loc} {K : V → Store → Prop} {X : Store → Prop}, ρ[1]? = some (some (.ref ch)) → (∀ n σ' t', 0 ≤ n ∧ n < 24 → Has R σ' ((la, .ba x) :: (ch, chO ns t') :: cs) → K (.int n) σ') → wE (wCall tab (m + 1)) (.meth (.x 1) "following" []) ρ σ' K X := fun hρ hK =>
      locP_i hρ ⟨_, .fn _ _ _ _ _ (H2.get 1 rfl) rfl rfl, c_next (H2.get 1 rfl) hn fun n t' hnn => hK n _ t' (hns n hnn) (H2.sets 1 rfl (chO ns t'))⟩
    have nd : [4, 5, 6].Nodup := by decide
    cases op with
    | t n =>
      refine ⟨_, .inl rfl, ⟨rfl, nd, tgt_ok 10 rfl rfl⟩, ?_⟩
      refine w_cons (s_asg' (num rfl fun v σ3 t3 hv3 H3 => ?_))
      refine ⟨lt _ _ rfl, _, .modI _ _ (by decide), lt _ _ rfl, _, .eqI _ _, ?_⟩
      by_cases q0 : Int.fmod v 4 = 0
      · rw [decide_eq_true q0]; exact kc _ _ (next H3 (.lost _ _) _ _ _ _ _ _)
      refine rwg (decide_eq_false q0) ?_
      refine ⟨_, .eqS _ _, ?_⟩
      refine rwg (show decide ("truncate" = "truncate") = true from rfl) ?_
      refine ⟨_, .neI _ _, ?_⟩
      by_cases q2 : Int.fmod v 4 = 2
      · rw [decide_eq_false fun h => h q2]; exact kc _ _ (next H3 (.lost _ _) _ _ _ _ _ _)
      refine rwg (decide_eq_true q2) ?_
      have hle' : n ≤ 10000 := hle
      exact (c_cut (H3.get 0 rfl) (by exact ⟨Nat.le_trans (by assumption) (Nat.le_of_ble_eq_true rfl), Nat.le_trans (by assumption) (Nat.le_of_ble_eq_true rfl)⟩) ⟨trivial, kc _ _ (next (H3.sets 0 rfl _) (.t n x) _ _ _ _ _ _)⟩)
    | w j b =>
      have hle' : j + b.length ≤ 10000 := hle
      refine ⟨_, .inl rfl, ⟨rfl, nd, tgt_ok 10 rfl rfl⟩, ?_⟩
      refine w_cons (s_asg' (num rfl fun v σ3 t3 hv3 H3 => ?_))
      refine ⟨lt _ _ rfl, _, .modI _ _ (by decide), lt _ _ rfl, _, .eqI _ _, ?_⟩
      by_cases q0 : Int.fmod v 4 = 0
      · rw [decide_eq_true q0]; exact kc _ _ (next H3 (.lost _ _) _ _ _ _ _ _)
      refine rwg (decide_eq_false q0) ?_
      refine ⟨_, .eqS _ _, ?_⟩
      refine rwg (show decide ("write" = "truncate") = false from rfl) ?_
      have fin : ∀ (Y : Loc → Store → Prop) (k : Nat) (b' : Bs), b' = b.take (8 * k) → ∀ w1 w2 w3 w4 w5 w6 : Option V, w2 = some (.int j) → w3 = some (.bytes b') → wSs (wCall tab (m + 1)) [.ifs (.cmp .NotEq (.x 6) (.c (.bytes []))) [.expr (.call (.g "put_octets") [(.x 3), (.x 5), (.x 6)])] []] [some (.ref fa), some (.ref ch), some (.int 8), some (.ref la), w1, w2, w3, w4, w5, w6] σ3 K Y := fun Y k b' eb w1 w2 w3 w4 w5 w6 e2 e3 => by
        subst e2 e3
        refine ⟨_, .neB _ _, ?_⟩
        by_cases q : b' = []
        · rw [decide_eq_false fun h => h q]; exact kn _ _ (next H3 (.lost _ _) _ _ _ _ _ _)
        · refine rwg (decide_eq_true q) ?_
          have : b'.length ≤ b.length := by rw [eb, List.length_take]; exact Nat.min_le_right _ _
          refine (c_put (H3.get 0 rfl) (by lia) ⟨trivial, kn _ _ (next (H3.sets 0 rfl _) ?_ _ _ _ _ _ _)⟩)
          rw [eb]; exact .w j b k x (eb ▸ q)
      refine ⟨_, .eqI _ _, ?_⟩
      by_cases q2 : Int.fmod v 4 = 2
      · refine rwg (decide_eq_true q2) ?_
        refine ⟨_, .lenB _ (by lia), _, .addI _ _, _, .subI _ _, _, .divI _ _ (by decide) (by_pylong (by decide)), _, .max _ _, lt _ _ rfl, ?_⟩
        have hd : Int.fdiv ((b.length : Int) + 8 - 1) 8 = ((b.length : Int) + 7) / 8 := by rw [Int.fdiv_eq_ediv_of_nonneg _ (by decide)]; congr 1; lia
        obtain ⟨S, hS, eS⟩ : ∃ S : Nat, (1 ≤ S ∧ S ≤ 20000) ∧ (if (1 : Int) < Int.fdiv ((b.length : Int) + 8 - 1) 8 then Int.fdiv ((b.length : Int) + 8 - 1) 8 else 1) = (S : Int) := by
          refine rwg hd ?_
          split
          · exact ⟨((b.length + 7) / 8), by lia, by exact rfl⟩
          · exact ⟨1, by lia, rfl⟩
        rw [eS]
        have b1 := Int.fmod_nonneg_of_pos (Int.fdiv v 4) (b := S) (by exact Int.ofNat_le.mpr (And.left (by assumption)))
        have b2 := Int.fmod_lt_of_pos (Int.fdiv v 4) (b := S) (by exact Int.ofNat_le.mpr (And.left (by assumption)))
        obtain ⟨k, hk⟩ : ∃ k : Nat, Int.fmod (Int.fdiv v 4) S = (k : Int) := ⟨(Int.fmod (Int.fdiv v 4) S).toNat, (Int.toNat_of_nonneg b1).symm⟩
        refine ⟨_, .divI _ _ (by decide) (by_pylong (by decide)), _, .modI _ _ (by lia), _, .mulI _ _ (mul_small (by lia)), _, .bytes _ (by lia), lt _ _ rfl, ?_⟩
        rw [hk, show ((k : Int) * 8) = ((8 * k : Nat) : Int) by lia, sl_to]
        exact fin _ k _ rfl _ _ _ _ _ _ rfl rfl
      · refine rwg (decide_eq_false q2) ?_
        exact fin _ b.length b (List.take_of_length_le (by lia)).symm _ _ _ _ _ _ rfl rfl
  · refine foldg fun G0 fin0 => ?_
    obtain ⟨x, t', ⟨a, b, c, e, f, g, rfl⟩, hs, hx, H2⟩ := hI
    refine fin0 ?_
    rw [List.length_map, List.take_length] at hs
    exact (ret_of (hQ _ la x t' hs hx H2))
end
end Mine
end
section
namespace Mine
noncomputable def Store.del (σ : Store) (a : Addr) : Store := fun b => if b = a then none else σ b
structure AF.Bd (f : AF) : Prop where
  sy : f.synced.length ≤ 9000
  now : f.now.length ≤ 9000
  ops : ∀ op ∈ f.pend, op.Le 9000
  few : f.pend.length ≤ 90
section
variable {R σ : Store} {d fa fb fj a pa na ch : Addr} {D : AD} {o : O} {Q : V → Store → Prop} {X : Store → Prop} {m : Nat} {f : AF} {cs : List (Addr × O)} {p : Addr × O} {ns : List Int}
theorem AF.Bd.small (h : f.Bd) : f.Small := ⟨Nat.le_trans h.now (Nat.le_of_ble_eq_true rfl), Nat.le_trans h.few (Nat.le_of_ble_eq_true rfl)⟩
theorem Store.del_other {b : Addr} {x : O} (σ : Store) (h : σ b = some x) (ha : σ a = some o) (ne : x ≠ o) : (σ.del a) b = some x := by
  unfold Store.del
  rw [if_neg fun e => ne (by rw [e, ha] at h; cases h; rfl)]; exact h
theorem Has.outR (H : Has R σ cs) (e : R a = some o) : Has (R.del a) σ ((a, o) :: cs) := by
  have l : Less (R.del a) R := fun b x h => by
    unfold Store.del at h; split at h
    · cases h
    · exact h
  have ne : ∀ q ∈ cs, q.1 ≠ a := fun q hq h => by have := H.off q hq; rw [h, e] at this; cases this
  refine ⟨List.nodup_cons.mpr ⟨fun hm => ?_, H.nd⟩, fun q hq => ?_, fun q hq => ?_, fun b x h => H.rest _ _ (l _ _ h)⟩
  · obtain ⟨q, hq, e'⟩ := List.mem_map.mp hm
    exact ne q hq e'
  · rcases List.mem_cons.mp hq with rfl | hq
    · exact H.r e
    · exact H.at_ q hq
  · rcases List.mem_cons.mp hq with rfl | hq
    · exact if_pos rfl
    · exact (H.lessR l).off q hq
theorem Store.del_set (σ : Store) (a : Addr) (o : O) : (σ.del a).set a o = σ.set a o := by
  funext b; unfold Store.set Store.del; split <;> rfl
theorem c_surv' {sy : Bs} {ps : List Op} {t : Int} {nm : String} (H : Has R σ cs) (hc : R ch = some (chO ns t)) (hf : R fa = some (fO d nm sy pa na)) (hp : R pa = some (.list (ps.map Op.v))) (hn : ns ≠ [] ∧ ns.length ≤ 100) (hns : ∀ n ∈ ns, 0 ≤ n ∧ n < 24)
    (hl : sy.length ≤ 10000 ∧ ∀ op ∈ ps, op.Le 10000) (hpl : ps.length ≤ 1000) (hQ : ∀ σ' la x t', Surv ps sy x → x.length ≤ 10000 → Has (R.set ch (chO ns t')) σ' ((la, .ba x) :: cs) → Q (.ref la) σ') : wCall tab (m + 2) .fSurviving [.ref fa, .ref ch, .int 8] σ Q X :=
  c_surv (H.outR hc) (Store.del_other R hf hc nofun) (Store.del_other R hp hc O.noConfusion) hn hns hl hpl fun σ' la x t' hs hx H' => hQ σ' la x t' hs hx (by
    have := (Has.pick (L := [_, _]) H' [1, 0] (by decide) [_, _] rfl).toR
    rwa [Store.del_set] at this)
noncomputable def turnB : List S := (B.dSurvivor.body.drop 2).head?.elim [] fun s => match s with | .for_ _ _ b => b.drop 1 | _ => []
theorem surv_turn {d0 fd0 sh0 lk0 fa0 pa0 na0 fd sh lk : Addr} {sy b : Bs} {ps : List Op} {t s0 s : Int} {c0 c : Option Int} {nm nm0 : String} {es : List (String × V)} {sy' : Bs} {w1 w6 : Option V} {Q : Fl → Loc → Store → Prop} {X : Loc → Store → Prop}
    (H : Has R σ (fCells d fd sh lk s c nm sy' fa pa na [] b ++ cs)) (hd : R d0 = some (dO fd0 sh0 lk0 s0 c0)) (hes : R fd0 = some (.dict es)) (he : getF es nm = some (.ref fa0)) (hf : R fa0 = some (fO d0 nm0 sy pa0 na0)) (hp : R pa0 = some (.list (ps.map Op.v)))
    (hc : R ch = some (chO ns t)) (hn : ns ≠ [] ∧ ns.length ≤ 100) (hns : ∀ n ∈ ns, 0 ≤ n ∧ n < 24) (hl : sy.length ≤ 10000 ∧ ∀ op ∈ ps, op.Le 10000) (hpl : ps.length ≤ 1000)
    (hQ : ∀ σ' la x t', Surv ps sy x → x.length ≤ 10000 → Has (R.set ch (chO ns t')) σ' (fCells d fd sh lk s c nm x fa pa la [] x ++ cs) → Q .next [some (.ref d0), w1, some (.ref ch), some (.ref d), some (.str nm), some (.ref fa), some (.ref la)] σ') :
    wSs (wCall tab (m + 2)) turnB [some (.ref d0), w1, some (.ref ch), some (.ref d), some (.str nm), some (.ref fa), w6] σ Q X := by
  refine ⟨_, .mk _ _ _ _ _ (H.r hd) rfl rfl, _, .dict _ _ _ _ (H.r hes) he, _, .fn _ _ _ _ _ (H.r hf) rfl rfl, _, .mk _ _ _ _ _ (H.r hd) rfl rfl, c_surv' H hc hf hp hn hns hl hpl fun σ' la x t' hs hx H1 => ⟨Nat.le_of_ble_eq_true rfl, ?_⟩⟩
  refine ⟨_, .bytesA _ _ (H1.get 0 rfl) (by exact Nat.le_trans (by assumption) (Nat.le_of_ble_eq_true rfl)), _, .mk _ _ _ _ _ (H1.get 2 rfl) (Nat.le_of_ble_eq_true rfl), ?_⟩
  have H2 := H1.sets 2 rfl (fO d nm x pa na)
  refine ⟨_, .mk _ _ _ _ _ (H2.get 2 rfl) (Nat.le_of_ble_eq_true rfl), hQ _ la x t' hs hx ?_⟩
  exact (H2.sets 2 rfl (fO d nm x pa la)).pick (L := [_, _, _, _, _]) [1, 2, 3, 0] (by decide) (fCells d fd sh lk s c nm x fa pa la [] x) rfl
theorem e_new_choices {ρ : Loc} (hρ : ρ[1]? = some (some (.list (ns.map .int)))) (H : Has R σ cs) (hl : ns.length ≤ 100) (hQ : ∀ σ' ch, Has R σ' ((ch, chO ns 0) :: cs) → Q (.ref ch) σ') : wE (wCall tab (m + 1)) (.call (.g "Choices") [.x 1]) ρ σ Q X :=
  locP_i hρ (new_choices H hl hQ)
theorem e_new_disk2 {ρ : Loc} {d fd sh lk : Addr} {s : Int} {c : Option Int} (hρ : ρ[0]? = some (some (.ref d))) (hd : σ d = some (dO fd sh lk s c)) (H : Has R σ cs) (hQ : ∀ σ' d fd sh lk, Has R σ' (d0Cells d fd sh lk 0 none ++ cs) → Q (.ref d) σ') :
    wE (wCall tab (m + 2)) (.call (.g "Disk") [.attr (.x 0) "sector", .attr (.x 0) "room"]) ρ σ Q X :=
  locP_i hρ ⟨_, .mk _ _ _ _ _ hd rfl rfl, locP_i hρ ⟨_, .mk _ _ _ _ _ hd rfl rfl, new_disk (fun u_ => rfl) H hQ⟩⟩
theorem c_survivor (H : DiskAt R σ d fb fj D) (hn : ns ≠ [] ∧ ns.length ≤ 100) (hns : ∀ n ∈ ns, 0 ≤ n ∧ n < 24) (hb : D.db.Bd) (hj : ∀ j, D.jr = some j → j.Bd)
    (hQ : ∀ σ' d' fb' fj' x y, Surv D.db.pend D.db.synced x → x.length ≤ 9000 → (D.jr = none ∧ y = none) ∨ (∃ j z, D.jr = some j ∧ Surv j.pend j.synced z ∧ z.length ≤ 9000 ∧ y = some ⟨z, [], z⟩) → DiskAt R σ' d' fb' fj' ⟨⟨x, [], x⟩, y, 0, none⟩ → Q (.ref d') σ') :
    wCall tab (m + 4) .dSurvivor [.ref d, .list (ns.map .int)] σ Q X := by
  have lt : ∀ n k, Nat.ble n k = true → n ≤ k := fun n k h => Nat.le_of_ble_eq_true h
  refine foldg fun G0 fin0 => ?_
  obtain ⟨fd, sh, lk, pb, nb, pj, nj, H⟩ := H
  refine fin0 ?_
  have hd := H.get 0 rfl
  refine call_of rfl ?_
  refine w_cons (s_asg' (e_new_choices rfl (Has.nil σ) hn.2 fun σ1 ch H1 => ⟨lt _ _ rfl, ?_⟩))
  refine w_cons (s_asg' (e_new_disk2 rfl (H1.r hd) H1 fun σ2 d' fd' sh' lk' H2 => ⟨lt _ _ rfl, ?_⟩))
  have H3 := (H2.pick (L := [_, _, _]) (cs := []) [2, 0, 1] (by decide) ((ch, chO ns 0) :: d0Cells d' fd' sh' lk' 0 none) rfl).toR
  have fr : ∀ {a : Addr} {o : O} (t : Int), σ a = some o → (σ.set ch (chO ns t)) a = some o := fun t h => Less.of_new (H1.off (ch, chO ns 0) (.head _)) (chO ns t) _ _ h
  have self : ∀ t, (σ.set ch (chO ns t)) ch = some (chO ns t) := fun t => Store.self ..
  have lo : ∀ t, Less σ (σ.set ch (chO ns t)) := fun t => Less.of_new (H1.off (ch, chO ns 0) (.head _)) _
  have l9 : ∀ n, n ≤ 9000 → n ≤ 10000 := fun n h => Nat.le_trans h (lt _ _ rfl)
  have ole : ∀ {f : AF}, f.Bd → f.synced.length ≤ 10000 ∧ ∀ op ∈ f.pend, op.Le 10000 := fun h => ⟨l9 _ h.sy, fun op ho => by
    have := h.ops op ho
    cases op <;> exact l9 _ this⟩
  have x9 : ∀ {f : AF} {x : Bs}, f.Bd → Surv f.pend f.synced x → x.length ≤ 9000 := fun h hs => hs.inv (P := fun x => x.length ≤ 9000) h.sy fun op ho x y hx so => so.len (h.ops op ho) hx
  have few : ∀ {f : AF}, f.Bd → f.pend.length ≤ 1000 := fun h => Nat.le_trans h.few (lt _ _ rfl)
  cases ej : D.jr with
  | none =>
    rw [ej] at H
    refine ⟨_, .mk _ _ _ _ _ (H3.r (fr 0 hd)) rfl rfl, _, .sorted _ _ (H3.r (fr 0 (H.get 4 rfl))) (.inl rfl), _, _, .list _, lt _ _ rfl, trivial, lt _ _ rfl, ?_⟩
    refine ⟨_, .fn _ _ _ _ _ (H3.get 0 rfl) rfl rfl, d_open0 H3 fun σ3 fb' H4 => ⟨lt _ _ rfl, ?_⟩⟩
    refine foldg fun G0 fin0 => ?_
    obtain ⟨fd2, sh2, lk2, pb2, nb2, pj2, nj2, H4⟩ := H4
    refine fin0 ?_
    refine surv_turn H4 (fr 0 hd) (fr 0 (H.get 4 rfl)) rfl (fr 0 (H.get 1 rfl)) (fr 0 (H.get 2 rfl)) (self 0) hn hns (ole hb) (few hb) fun σ4 la x t' hs hx H5 => ⟨trivial, ret_of (hQ σ4 d' fb' fb' x none hs (x9 hb hs) (.inl ⟨ej, rfl⟩) ⟨fd2, sh2, lk2, pb2, la, fb', fb', ?_⟩)⟩
    rw [Store.set_set] at H5
    exact H5.lessR fun u_ u_ e => lo t' _ _ (H.rest _ _ e)
  | some j =>
    rw [ej] at H
    have hbj := hj j ej
    refine ⟨_, .mk _ _ _ _ _ (H3.r (fr 0 hd)) rfl rfl, _, .sorted _ _ (H3.r (fr 0 (H.get 4 rfl))) (.inr rfl), _, _, .list _, lt _ _ rfl, trivial, lt _ _ rfl, ?_⟩
    refine ⟨_, .fn _ _ _ _ _ (H3.get 0 rfl) rfl rfl, d_open0 H3 fun σ3 fb' H4 => ⟨lt _ _ rfl, ?_⟩⟩
    refine foldg fun G0 fin0 => ?_
    obtain ⟨fd2, sh2, lk2, pb2, nb2, pj2, nj2, H4⟩ := H4
    refine fin0 ?_
    refine surv_turn H4 (fr 0 hd) (fr 0 (H.get 4 rfl)) rfl (fr 0 (H.get 1 rfl)) (fr 0 (H.get 2 rfl)) (self 0) hn hns (ole hb) (few hb) fun σ4 la x t' hs hx H5 => ⟨trivial, lt _ _ rfl, ?_⟩
    rw [Store.set_set] at H5
    have H6 : DiskAt (σ.set ch (chO ns t')) σ4 d' fb' fb' ⟨⟨x, [], x⟩, none, 0, none⟩ := ⟨fd2, sh2, lk2, pb2, la, fb', fb', H5⟩
    refine ⟨_, .fn _ _ _ _ _ (H5.get 0 rfl) rfl rfl, d_openN H6 rfl fun σ5 fj' H7 => ⟨lt _ _ rfl, ?_⟩⟩
    refine foldg fun G0 fin0 => ?_
    obtain ⟨fd3, sh3, lk3, pb3, nb3, pj3, nj3, H7⟩ := H7
    refine fin0 ?_
    rw [← List.append_nil (_ ++ _)] at H7
    have H8 := H7.pick [0, 5, 6, 7, 1, 2, 3, 4] (by decide) (fCells d' fd3 sh3 lk3 0 none "db-journal" [] fj' pj3 nj3 [] [] ++ [_, _, _, _]) rfl
    refine surv_turn H8 (fr t' hd) (fr t' (H.get 4 rfl)) rfl (fr t' (H.get 5 rfl)) (fr t' (H.get 6 rfl)) (self t') hn hns (ole hbj) (few hbj) fun σ6 la' z t2 hs' hz H9 => ⟨trivial, ret_of (hQ σ6 d' fb' fj' x (some ⟨z, [], z⟩) hs (x9 hb hs) (.inr ⟨j, z, ej, hs', x9 hbj hs', rfl⟩) ⟨fd3, sh3, lk3, pb3, nb3, pj3, la', ?_⟩)⟩
    rw [Store.set_set] at H9
    refine rwl (List.append_nil (_ ++ _)) ?_
    exact (Has.pick (L := [_, _, _, _, _, _, _, _]) H9 [0, 4, 5, 6, 7, 1, 2, 3] (by decide) _ rfl).lessR fun u_ u_ e => lo t2 _ _ (H.rest _ _ e)
end
end Mine
end
section
namespace Mine
theorem put_get (x : Bs) (i : Nat) (c : Bs) (k : Nat) : (put x i c)[k]? = if k < i then (if k < x.length then x[k]? else some 0) else if k < i + c.length then c[k - i]? else x[k]? := by
  have hp : (x ++ List.replicate (i - x.length) 0)[k]? = if k < x.length then x[k]? else if k < i then some 0 else none := by
    rw [List.getElem?_append, List.getElem?_replicate]
    by_cases q : k < x.length
    · rw [if_pos q, if_pos q]
    · rw [if_neg q, if_neg q]
      by_cases h : k < i
      · rw [if_pos (Nat.sub_lt_sub_right (Nat.le_of_not_lt q) h), if_pos h]
      · rw [if_neg (Nat.not_lt.mpr (Nat.sub_le_sub_right (Nat.le_of_not_lt h) _)), if_neg h]
  have hl : ((x ++ List.replicate (i - x.length) 0).take i).length = i := by rw [List.length_take, List.length_append, List.length_replicate]; exact Nat.min_eq_left (Nat.sub_le_iff_le_add'.mp (Nat.le_refl _))
  unfold put
  rw [List.append_assoc, List.getElem?_append, hl]
  by_cases h1 : k < i
  · rw [if_pos h1, if_pos h1, List.getElem?_take, if_pos h1, hp, if_pos h1]
  · refine rwg (if_neg h1) ?_
    refine rwg (if_neg h1) ?_
    refine rwg (List.getElem?_append) ?_
    by_cases h2 : k < i + c.length
    · rw [if_pos (Nat.sub_lt_left_of_lt_add (Nat.le_of_not_lt h1) h2), if_pos h2]
    · refine rwg (if_neg (Nat.not_lt.mpr (Nat.le_sub_of_add_le' (Nat.le_of_not_lt h2)))) ?_
      refine rwg (if_neg h2) ?_
      refine rwg (List.getElem?_drop) ?_
      refine rwg (show i + c.length + (k - i - c.length) = k by rw [Nat.sub_sub]; exact Nat.add_sub_cancel' (Nat.le_of_not_lt h2)) ?_
      refine rwg hp ?_
      refine rwg (if_neg h1) ?_
      by_cases q : k < x.length
      · exact if_pos q
      · rw [if_neg q, List.getElem?_eq_none (Nat.le_of_not_lt q)]
theorem cut_get (x : Bs) (n k : Nat) : (cutTo x n)[k]? = if k < n then (if k < x.length then x[k]? else some 0) else none := by
  unfold cutTo
  by_cases h : n < x.length
  · refine rwg (if_pos h) ?_
    refine rwg (List.getElem?_take) ?_
    by_cases hk : k < n
    · rw [if_pos hk, if_pos hk, if_pos (Nat.lt_trans hk h)]
    · rw [if_neg hk, if_neg hk]
  · refine rwg (if_neg h) ?_
    refine rwg (List.getElem?_append) ?_
    refine rwg (List.getElem?_replicate) ?_
    by_cases hk : k < x.length
    · rw [if_pos hk, if_pos hk, if_pos (Nat.lt_of_lt_of_le hk (Nat.le_of_not_lt h))]
    · refine rwg (if_neg hk) ?_
      refine rwg (if_neg hk) ?_
      by_cases h2 : k < n
      · rw [if_pos (Nat.sub_lt_sub_right (Nat.le_of_not_lt hk) h2), if_pos h2]
      · rw [if_neg (Nat.not_lt.mpr (Nat.sub_le_sub_right (Nat.le_of_not_lt h2) _)), if_neg h2]
noncomputable def PlayOk (cov : List Nat) (old : List Bs) (x : Bs) : Prop := ∀ (i : Nat) b, old[i]? = some b → i + 1 ∉ cov → ∀ j, j < 64 → x[64 * i + j]? = b[j]?
noncomputable def SafeOp (cov : List Nat) (n : Nat) : Op → Prop
  | .w i b => ∃ p, 1 ≤ p ∧ i = (p - 1) * 64 ∧ b.length ≤ 64 ∧ (p ∈ cov ∨ n < p)
  | .t m => ∃ k, m = k * 64 ∧ ∀ i, k ≤ i → i < n → i + 1 ∈ cov
abbrev P64 (ps : List Bs) : Prop := ∀ b ∈ ps, b.length = 64
section
variable {cov : List Nat} {old new : List Bs} {x y : Bs}
theorem fl_get (h : P64 old) {i j : Nat} {b : Bs} (e : old[i]? = some b) (hj : j < 64) : old.flatten[64 * i + j]? = b[j]? := by
  have := fl_at h e
  rw [← List.getElem?_drop, ← this, List.getElem?_take, if_pos hj]
theorem PlayOk.self (h : P64 old) : PlayOk cov old old.flatten := fun i b e u_ j hj => fl_get h e hj
theorem page_ne {i j q n : Nat} (hj : j < 64) (hn : n ≤ 64) (ne : i ≠ q) (h : ¬64 * i + j < q * 64) : ¬64 * i + j < q * 64 + n := by lia
theorem PlayOk.surv (h : P64 old) {op : Op} (hx : PlayOk cov old x) (so : SafeOp cov old.length op) (s : SurvOp op x y) : PlayOk cov old y := by
  intro i b e hi j hj
  have hb := h b (List.mem_of_getElem? e)
  have hin : i < old.length := (List.getElem?_eq_some_iff.mp e).1
  have h0 := hx i b e hi j hj
  have hlt : 64 * i + j < x.length := by
    rw [List.getElem?_eq_getElem (show j < b.length from hb ▸ hj)] at h0
    exact (List.getElem?_eq_some_iff.mp h0).1
  cases s with
  | lost => exact h0
  | w at_ c k _ _ =>
    refine foldg fun G0 fin0 => ?_
    obtain ⟨p, hp, ei, hc, hp'⟩ := so
    refine fin0 ?_
    have hne : i + 1 ≠ p := fun q => by
      rcases hp' with hp' | hp'
      · exact hi (q ▸ hp')
      · lia
    have hc' : (c.take (8 * k)).length ≤ 64 := by rw [List.length_take]; exact Nat.le_trans (Nat.min_le_right _ _) hc
    rw [put_get, ← h0]
    by_cases hk : 64 * i + j < at_
    · rw [if_pos hk, if_pos hlt]
    · rw [if_neg hk, if_neg (by lia)]
  | t n =>
    refine foldg fun G0 fin0 => ?_
    obtain ⟨k, ek, hk⟩ := so
    refine fin0 ?_
    have : i < k := Nat.lt_of_not_le fun q => hi (hk i q hin)
    rw [cut_get, if_pos (by lia), if_pos hlt, h0]
theorem PlayOk.mono {cov' : List Nat} (h : PlayOk cov old x) (l : ∀ p ∈ cov, p ∈ cov') : PlayOk cov' old x := fun i b e hi => h i b e fun q => hi (l _ q)
theorem PlayOk.play (h : P64 old) {p : Nat} {b : Bs} (hx : PlayOk (p :: cov) old x) (hp : 1 ≤ p) (e : old[p - 1]? = some b) : PlayOk cov old (put x ((p - 1) * 64) b) := by
  intro i c ei hi j hj
  have hb := h b (List.mem_of_getElem? e)
  have hc := h c (List.mem_of_getElem? ei)
  by_cases q : i = p - 1
  · rw [← q] at e
    rw [ei] at e
    cases e
    rw [← q, Nat.mul_comm i, put_get, if_neg (Nat.not_lt.mpr (Nat.le_add_right _ _)), if_pos (Nat.add_lt_add_left (hc ▸ hj) _), Nat.add_sub_cancel_left]
  · have h0 := hx i c ei (fun hm => (List.mem_cons.mp hm).elim (fun w => q (by rw [← w]; rfl)) hi) j hj
    have hlt : 64 * i + j < x.length := by
      rw [List.getElem?_eq_getElem (show j < c.length from hc ▸ hj)] at h0
      exact (List.getElem?_eq_some_iff.mp h0).1
    rw [put_get, ← h0]
    by_cases hk : 64 * i + j < (p - 1) * 64
    · rw [if_pos hk, if_pos hlt]
    · rw [if_neg hk, if_neg (page_ne hj (Nat.le_of_eq hb) q hk)]
theorem PlayOk.eq (h : P64 old) (hx : PlayOk [] old x) (hl : x.length = old.length * 64) : x = old.flatten := by
  have hf := fl_len h
  refine List.ext_getElem? fun k => ?_
  by_cases hk : k < old.length * 64
  · have hi : k / 64 < old.length := (Nat.div_lt_iff_lt_mul (by decide)).mpr hk
    have e := List.getElem?_eq_getElem hi
    have hj : k % 64 < 64 := Nat.mod_lt _ (by decide)
    have h1 := hx _ _ e (List.not_mem_nil) _ hj
    have h2 := fl_get h e hj
    rw [Nat.div_add_mod] at h1 h2
    rw [h1, h2]
  · have hk := Nat.le_of_not_lt hk
    rw [List.getElem?_eq_none (hl ▸ hk), List.getElem?_eq_none (by rw [hf, Nat.mul_comm]; exact hk)]
theorem PlayOk.end_ (h : P64 old) {g : AF} (hx : PlayOk [] old g.now) : (dbEnd g old.length).now = old.flatten := by
  unfold dbEnd
  split
  · rename_i hl; exact hx.eq h hl
  · refine PlayOk.eq (x := cutTo g.now (old.length * 64)) h ?_ (cutTo_len ..)
    exact (hx.surv h (op := .t (old.length * 64)) ⟨old.length, rfl, fun i h1 h2 => absurd h2 (by exact Nat.not_lt.mpr (by assumption))⟩ (.t _ _))
theorem PlayOk.plays (h : P64 old) {rs : List Rec} : ∀ {g : AF}, (∀ r ∈ rs, 1 ≤ r.1 ∧ old[r.1 - 1]? = some r.2) → PlayOk (rs.map (·.1)) old g.now → PlayOk [] old (plays g rs).now := by
  induction rs with
  | nil => exact fun u_ hx => hx
  | cons r rs ih =>
    intro g hr hx
    have := hr r (.head _)
    exact ih (g := g.write ((r.1 - 1) * 64) r.2) (fun r' hr' => hr r' (.tail _ hr')) (PlayOk.play h hx this.1 this.2)
theorem put_page {cur : List Bs} (h : P64 cur) {b : Bs} (hb : b.length = 64) {p : Nat} (hp : p ≤ cur.length) : put cur.flatten (p * 64) b = (cur.take p ++ b :: cur.drop (p + 1)).flatten := by
  have hl := fl_len h
  unfold put
  rw [show p * 64 - cur.flatten.length = 0 by lia, List.replicate_zero, List.append_nil, hb, show p * 64 = 64 * p by exact Nat.mul_comm _ _, fl_take p h, show 64 * p + 64 = 64 * (p + 1) by exact rfl, fl_drop (p + 1) h, List.flatten_append, List.flatten_cons, List.append_assoc]
theorem upd_get {cur : List Bs} {b : Bs} {p : Nat} (hp : p ≤ cur.length) (i : Nat) : (cur.take p ++ b :: cur.drop (p + 1))[i]? = if i = p then some b else cur[i]? := by
  refine rwg (List.getElem?_append) ?_
  refine rwg List.length_take ?_
  refine rwg (Nat.min_eq_left hp) ?_
  by_cases h : i < p
  · rw [if_pos h, if_neg (Nat.ne_of_lt h), List.getElem?_take, if_pos h]
  · refine rwg (if_neg h) ?_
    by_cases q : i = p
    · rw [if_pos q, q, Nat.sub_self]; rfl
    · have hg : p < i := Nat.lt_of_le_of_ne (Nat.le_of_not_lt h) (Ne.symm q)
      refine rwg (if_neg q) ?_
      refine rwg (Nat.sub_add_cancel (Nat.sub_pos_of_lt hg)).symm ?_
      refine rwg (List.getElem?_cons_succ) ?_
      refine rwg (List.getElem?_drop) ?_
      rw [Nat.sub_sub, Nat.add_sub_cancel' hg]
end
end Mine
end
section
namespace Mine
noncomputable def cI : Option Nat → Int
  | none => NS
  | some n => n
noncomputable def Cold (ν : Int) (pc : Nat) (y : Bs) : Prop := ∃ k m, (k ≤ 3 ∧ 8 * k + m ≤ 24) ∧ y.take 24 = (headB NS ν pc).take (8 * k) ++ List.replicate m 0
noncomputable def JP (ν : Int) (pc : Nat) (c : Option Nat) (rs : List Rec) (y : Bs) : Prop := match c with
  | none => Cold ν pc y
  | some n => y.take (24 + 72 * n) = headB n ν pc ++ recsB ν (rs.take n)
structure JrS (ν : Int) (pc : Nat) (c : Option Nat) (rs : List Rec) (f : AF) : Prop where
  now : f.now = headB (cI c) ν pc ++ recsB ν rs
  surv : ∀ y, Surv f.pend f.synced y → JP ν pc c rs y
  le : ∀ n, c = some n → n ≤ rs.length
  sy : f.synced.length ≤ 1000
  ops : ∀ op ∈ f.pend, op.Le 1000
  few : f.pend.length ≤ rs.length + 1
  r64 : ∀ r ∈ rs, r.2.length = 64
  rl : rs.length ≤ 10
section
variable {ν : Int} {pc : Nat} {c : Option Nat} {rs : List Rec} {f : AF} {x y : Bs} {old new : List Bs}
theorem Surv.split {op : Op} {ps : List Op} : ∀ {x z : Bs}, Surv (ps ++ [op]) x z → ∃ y, Surv ps x y ∧ SurvOp op y z := by
  induction ps with
  | nil =>
    intro x z s
    cases s with
    | cons h s => cases s; exact ⟨_, .nil _, h⟩
  | cons o ps ih =>
    intro x z s
    cases s with
    | cons h s => exact (ih s).imp fun y h1 => ⟨.cons h h1.1, h1.2⟩
theorem Surv.done (s : Surv [] x y) : y = x := by cases s; rfl
theorem put_nil (c : Bs) : put [] 0 c = c := by unfold put; simp
theorem put_take {N i : Nat} (h : N ≤ i) (y c : Bs) : (put y i c).take N = (y ++ List.replicate (i - y.length) 0).take N := by
  unfold put
  rw [List.append_assoc, List.take_append_of_le_length (by rw [List.length_take, List.length_append, List.length_replicate]; exact Nat.le_min.mpr ⟨h, Nat.le_trans h (Nat.sub_le_iff_le_add'.mp (Nat.le_refl _))⟩), List.take_take, Nat.min_eq_left h]
theorem put_end (y c : Bs) : put y y.length c = y ++ c := by
  unfold put
  rw [Nat.sub_self, List.replicate_zero, List.append_nil, List.take_length, List.drop_eq_nil_of_le (by exact Nat.le_add_right _ _), List.append_nil]
theorem Cold.put (h : Cold ν pc y) {i : Nat} (hi : 24 ≤ i) (c : Bs) : Cold ν pc (put y i c) := by
  refine foldg fun G0 fin0 => ?_
  obtain ⟨k, m, ⟨hk, hm⟩, e⟩ := h
  refine fin0 ?_
  unfold Cold
  rw [put_take hi]
  by_cases hl : 24 ≤ y.length
  · exact ⟨k, m, ⟨hk, hm⟩, by rw [List.take_append_of_le_length hl]; exact e⟩
  · have hl := Nat.le_of_not_le hl
    rw [List.take_of_length_le hl] at e
    refine ⟨k, m + (24 - y.length), ⟨hk, ?_⟩, ?_⟩
    · have := congrArg List.length e
      rw [List.length_append, List.length_take, headB_len, List.length_replicate, Nat.min_eq_left (Nat.le_trans (Nat.le_add_right _ m) hm)] at this
      rw [← Nat.add_assoc, ← this, Nat.add_sub_cancel' hl]
      exact Nat.le_refl _
    · rw [List.take_append, List.take_of_length_le hl, List.take_replicate, Nat.min_eq_left (Nat.sub_le_sub_right hi _), ← List.replicate_append_replicate, ← List.append_assoc, ← e]
theorem recsB_len (h : ∀ r ∈ rs, r.2.length = 64) : (recsB ν rs).length = 72 * rs.length := by
  unfold recsB
  rw [fl_len (k := 72) fun b hb => by obtain ⟨r, hr, rfl⟩ := List.mem_map.mp hb; rw [recB_len, h r hr], List.length_map]
theorem recsB_take (h : ∀ r ∈ rs, r.2.length = 64) (n : Nat) : (recsB ν rs).take (72 * n) = recsB ν (rs.take n) := by
  unfold recsB
  rw [fl_take (k := 72) n fun b hb => by obtain ⟨r, hr, rfl⟩ := List.mem_map.mp hb; rw [recB_len, h r hr], List.map_take]
theorem JrS.nowLen (h : JrS ν pc c rs f) : f.now.length = 24 + 72 * rs.length := by
  rw [h.now, List.length_append, headB_len, recsB_len h.r64]
theorem JrS.bd (h : JrS ν pc c rs f) : f.Bd := by
  have := h.nowLen
  have := h.rl
  have := h.sy
  have := h.few
  exact ⟨by exact Nat.le_trans (by assumption) (Nat.le_of_ble_eq_true rfl), by lia, fun op ho => by
    have := h.ops op ho
    cases op <;> exact Nat.le_trans this (Nat.le_of_ble_eq_true rfl), by lia⟩
theorem jst_new : JrS ν pc none [] (AF.new.write 0 (headB NS ν pc)) := by
  refine ⟨?_, fun y s => ?_, no_some, Nat.zero_le _, fun op ho => ?_, Nat.le_refl _, (List.forall_mem_nil _), Nat.zero_le _⟩
  · show Mine.put [] 0 _ = _ ++ []
    rw [put_nil, List.append_nil]; rfl
  · obtain ⟨y', s1, s2⟩ := Surv.split (ps := []) s
    rw [s1.done] at s2
    have s2' : SurvOp (.w 0 (headB NS ν pc)) [] y := s2
    cases s2' with
    | lost => exact ⟨0, 0, by decide, rfl⟩
    | w i b k x h =>
      have hl := headB_len NS ν pc
      rw [put_nil]
      by_cases hk : k ≤ 3
      · exact ⟨k, 0, by lia, by rw [List.take_take, Nat.min_eq_right (by exact Nat.mul_le_mul_left _ (by assumption))]; simp⟩
      · exact ⟨3, 0, by decide, by rw [List.take_take, Nat.min_eq_left (by lia)]; simp⟩
  · have : op = .w 0 (headB NS ν pc) := List.mem_singleton.mp ho
    subst this
    show 0 + _ ≤ _
    rw [headB_len]; exact Nat.le_of_ble_eq_true rfl
theorem recsB_snoc (r : Rec) : recsB ν (rs ++ [r]) = recsB ν rs ++ recB ν r.1 r.2 := by
  unfold recsB; rw [List.map_append, List.flatten_append]; simp
theorem JP.snoc {r : Rec} (h : JP ν pc c rs y) (hl : ∀ n, c = some n → n ≤ rs.length) : JP ν pc c (rs ++ [r]) y := by
  cases c with
  | none => exact h
  | some n => show _ = _; rw [List.take_append_of_le_length (hl n rfl)]; exact h
theorem JrS.add (h : JrS ν pc c rs f) {r : Rec} (hr : r.2.length = 64) (hl : rs.length ≤ 9) : JrS ν pc c (rs ++ [r]) (f.write (24 + 72 * rs.length) (recB ν r.1 r.2)) := by
  have hn := h.nowLen
  refine ⟨?_, fun y s => ?_, fun n e => ?_, h.sy, fun op ho => ?_, ?_, fun r' hr' => ?_, ?_⟩
  · show Mine.put _ _ _ = _
    rw [← hn, put_end, recsB_snoc, ← List.append_assoc, ← h.now]
  · obtain ⟨y', s1, s2⟩ := Surv.split s
    have h1 := h.surv y' s1
    cases s2 with
    | lost => exact h1.snoc h.le
    | w i b k x hb =>
      refine JP.snoc ?_ h.le
      cases c with
      | none => exact Cold.put h1 (by exact Nat.le_add_right _ _) _
      | some n =>
        have hn := h.le n rfl
        have h1 : y'.take (24 + 72 * n) = _ := h1
        have hy : 24 + 72 * n ≤ y'.length := by
          have := congrArg List.length h1
          rw [List.length_take, List.length_append, headB_len, recsB_len fun r hr => h.r64 r (List.mem_of_mem_take hr), List.length_take] at this
          lia
        show List.take _ _ = _
        rw [put_take (by lia), List.take_append_of_le_length hy]; exact h1
  · have := h.le n e; rw [List.length_append]; exact Nat.le_succ_of_le (by assumption)
  · rcases List.mem_append.mp ho with ho | ho
    · exact h.ops op ho
    · rw [List.mem_singleton.mp ho]
      show _ + _ ≤ _
      rw [recB_len, hr]; lia
  · show (f.pend ++ [_]).length ≤ (rs ++ [r]).length + 1
    rw [List.length_append, List.length_append]
    exact Nat.succ_le_succ h.few
  · rcases List.mem_append.mp hr' with hr' | hr'
    · exact h.r64 r' hr'
    · rw [List.mem_singleton.mp hr']; exact hr
  · rw [List.length_append]; exact Nat.succ_le_succ hl
theorem JrS.jp_now (h : JrS ν pc c rs f) : JP ν pc c rs f.now := by
  refine rwg h.now ?_
  cases c with
  | none => exact ⟨3, 0, by decide, by rw [List.take_left' (headB_len ..), List.take_of_length_le (by rw [headB_len]; exact Nat.le_refl _)]; simp; rfl⟩
  | some n =>
    show List.take _ _ = _
    rw [← headB_len (cI (some n)) ν pc, List.take_length_add_append, recsB_take h.r64]; rfl
theorem JrS.sync (h : JrS ν pc c rs f) : JrS ν pc c rs f.sync :=
  ⟨h.now, fun y s => by rw [s.done]; exact h.jp_now, h.le, by show f.now.length ≤ _; have := h.nowLen; have := h.rl; lia, (List.forall_mem_nil _), Nat.zero_le _, h.r64, h.rl⟩
theorem put_count (c' c : Int) (b : Bs) : Mine.put (headB c ν pc ++ b) 8 (bigOf 4 c') = headB c' ν pc ++ b := by
  have hl := headB_len c ν pc
  unfold Mine.put
  rw [show 8 - (headB c ν pc ++ b).length = 0 by rw [List.length_append]; omega, List.replicate_zero, List.append_nil, big_len]
  unfold headB
  rw [show magic ++ bigOf 4 c ++ bigOf 4 ν ++ bigOf 4 pc ++ bigOf 4 64 ++ b = magic ++ (bigOf 4 c ++ (bigOf 4 ν ++ bigOf 4 pc ++ bigOf 4 64 ++ b)) by simp, List.take_left' (show magic.length = 8 from rfl), ← List.drop_drop, List.drop_left' (show magic.length = 8 from rfl), List.drop_left' (big_len ..)]
  simp
theorem JrS.count_surv (h : JrS ν pc c rs f) (s : Surv (f.sync.write 8 (bigOf 4 rs.length)).pend f.sync.synced y) : JP ν pc c rs y ∨ JP ν pc (some rs.length) rs y := by
  obtain ⟨y', s1, s2⟩ := Surv.split (ps := []) s
  rw [s1.done] at s2
  have s2' : SurvOp (.w 8 (bigOf 4 rs.length)) f.now y := s2
  cases s2' with
  | lost => exact .inl h.jp_now
  | w i b k x hb =>
    right
    have hk : k ≠ 0 := fun e => hb (by rw [e]; rfl)
    rw [List.take_of_length_le (by rw [big_len]; lia), h.now, put_count]
    show List.take _ _ = _
    rw [← headB_len rs.length ν pc, List.take_length_add_append, List.take_of_length_le (by rw [recsB_len h.r64]; exact Nat.le_refl _), List.take_length]
theorem JrS.count_bd (h : JrS ν pc c rs f) : (f.sync.write 8 (bigOf 4 rs.length)).Bd := by
  have h1 := h.nowLen
  have h2 := h.rl
  refine ⟨by show f.now.length ≤ _; lia, by show (Mine.put _ _ _).length ≤ _; rw [put_len, big_len]; show max f.now.length _ ≤ _; lia, fun op ho => ?_, Nat.le_of_ble_eq_true rfl⟩
  have : op = .w 8 (bigOf 4 rs.length) := List.mem_singleton.mp ho
  subst this
  show 8 + _ ≤ _
  rw [big_len]; exact Nat.le_of_ble_eq_true rfl
theorem JrS.count (h : JrS ν pc c rs f) : JrS ν pc (some rs.length) rs (f.sync.write 8 (bigOf 4 rs.length)).sync := by
  have e : (f.sync.write 8 (bigOf 4 rs.length)).now = headB rs.length ν pc ++ recsB ν rs := by
    show Mine.put f.now 8 _ = _
    rw [h.now, put_count]
  have h0 := h.nowLen
  refine ⟨e, fun y s => ?_, fun n q => by cases q; exact Nat.le_refl _, h.count_bd.now |> fun u_ => ?_, (List.forall_mem_nil _), Nat.zero_le _, h.r64, h.rl⟩
  · rw [s.done]
    show List.take _ (f.sync.write 8 (bigOf 4 rs.length)).now = _
    rw [e, ← headB_len rs.length ν pc, List.take_length_add_append, List.take_of_length_le (by rw [recsB_len h.r64]; exact Nat.le_refl _), List.take_length]
  · show (f.sync.write 8 (bigOf 4 rs.length)).now.length ≤ _
    rw [e, List.length_append, headB_len, recsB_len h.r64]
    have := h.rl; lia
end
end Mine
end
section
namespace Mine
noncomputable def RecsOk (old : List Bs) (rs : List Rec) : Prop := ∀ r ∈ rs, 1 ≤ r.1 ∧ old[r.1 - 1]? = some r.2
noncomputable def Rec.Jour (old : List Bs) (x y : Bs) : Prop := ∃ (ν : Int) (rs : List Rec), (0 ≤ ν ∧ ν < 4294967296) ∧ rs.length ≤ 20 ∧ y.take (24 + 72 * rs.length) = headB rs.length ν old.length ++ recsB ν rs ∧ RecsOk old rs ∧ PlayOk (rs.map (·.1)) old x
noncomputable def RecR (old new : List Bs) (x : Bs) : Option Bs → Prop
  | none => x = old.flatten ∨ x = new.flatten
  | some y => (∃ ν : Int, (0 ≤ ν ∧ ν < 4294967296) ∧ Cold ν old.length y ∧ (x = old.flatten ∨ x = new.flatten)) ∨ Rec.Jour old x y
noncomputable def CrashInv (old new : List Bs) (D : AD) : Prop := D.db.Bd ∧ ∃ j, D.jr = some j ∧ j.Bd ∧ ∀ x y, Surv D.db.pend D.db.synced x → Surv j.pend j.synced y → RecR old new x (some y)
noncomputable def DP (old : List Bs) (c : Option Nat) (rs : List Rec) (x : Bs) : Prop := match c with
  | none => x = old.flatten
  | some n => PlayOk ((rs.take n).map (·.1)) old x
structure DbSt (h : Chg) (c : Option Nat) (rs : List Rec) (done : List Nat) (f : AF) : Prop where
  surv : ∀ x, Surv f.pend f.synced x → DP h.old c rs x
  now : DP h.old c rs f.now
  cur : ∃ cur, P64 cur ∧ f.now = cur.flatten ∧ ∀ i, cur[i]? = if i + 1 ∈ done ∧ i < h.new.length then h.new[i]? else h.old[i]?
  sy : f.synced.length ≤ 640
  ops : ∀ op ∈ f.pend, op.Le 640
  few : f.pend.length ≤ done.length
section
variable {ν : Int} {c : Option Nat} {rs rs2 : List Rec} {f g : AF} {x y : Bs} {old new : List Bs} {h : Chg} {done : List Nat} {st : Int} {cr : Option Int} {p : Nat}
theorem DP.app (hd : DP old c rs x) (hl : ∀ n, c = some n → n ≤ rs.length) : DP old c (rs ++ rs2) x := by
  cases c with
  | none => exact hd
  | some n => show PlayOk _ _ _; rw [List.take_append_of_le_length (hl n rfl)]; exact hd
theorem DP.up (h64 : P64 old) (hd : DP old c rs x) : DP old (some rs.length) rs x := by
  cases c with
  | none =>
    have : x = old.flatten := hd
    subst this
    exact PlayOk.self h64
  | some n => exact PlayOk.mono hd fun p hp => by rw [List.take_length]; exact (List.take_subset n rs |> List.map_subset _) hp
theorem DbSt.app (hd : DbSt h c rs done f) (hl : ∀ n, c = some n → n ≤ rs.length) : DbSt h c (rs ++ rs2) done f := ⟨fun x s => (hd.surv x s).app hl, hd.now.app hl, hd.cur, hd.sy, hd.ops, hd.few⟩
theorem DbSt.up (h64 : P64 h.old) (hd : DbSt h c rs done f) : DbSt h (some rs.length) rs done f := ⟨fun x s => (hd.surv x s).up h64, hd.now.up h64, hd.cur, hd.sy, hd.ops, hd.few⟩
theorem DbSt.curLen (ok : h.Ok) {cur : List Bs} (e : ∀ i, cur[i]? = if i + 1 ∈ done ∧ i < h.new.length then h.new[i]? else h.old[i]?) : h.old.length ≤ cur.length ∧ cur.length ≤ 7 := by
  have h1 := ok.olen
  have h2 := ok.nlen
  constructor
  · have e1 := e (h.old.length - 1)
    have : cur[h.old.length - 1]? ≠ none := by
      rw [e1]
      split
      · rename_i hq; rw [List.getElem?_eq_getElem hq.2]; exact nofun
      · rw [List.getElem?_eq_getElem (by lia)]; exact nofun
    rw [Ne, List.getElem?_eq_none_iff] at this
    lia
  · have : cur[7]? = none := by
      rw [e]
      split
      · rw [List.getElem?_eq_none (by lia)]
      · rw [List.getElem?_eq_none (by exact Nat.le_trans (And.right (by assumption)) (Nat.le_of_ble_eq_true rfl))]
    rwa [List.getElem?_eq_none_iff] at this
theorem DbSt.bd (ok : h.Ok) (hd : DbSt h c rs done f) (hl : done.length ≤ 80) : f.Bd := by
  refine foldg fun G0 fin0 => ?_
  obtain ⟨cur, h64, e, hc⟩ := hd.cur
  refine fin0 ?_
  have h1 := (DbSt.curLen ok hc).2
  have h2 := fl_len h64
  have h3 := hd.sy
  have h4 := hd.few
  refine ⟨by exact Nat.le_trans (by assumption) (Nat.le_of_ble_eq_true rfl), by rw [e]; lia, fun op ho => ?_, by exact Nat.le_trans (Nat.le_trans (by assumption) (by assumption)) (Nat.le_of_ble_eq_true rfl)⟩
  have := hd.ops op ho
  cases op <;> exact Nat.le_trans this (Nat.le_of_ble_eq_true rfl)
theorem DbSt.skip (hd : DbSt h c rs done f) (hp : h.new.length < p) : DbSt h c rs (done ++ [p]) f := by
  refine foldg fun G0 fin0 => ?_
  obtain ⟨cur, h64, e, hc⟩ := hd.cur
  refine fin0 ?_
  refine ⟨hd.surv, hd.now, ⟨cur, h64, e, fun i => ?_⟩, hd.sy, hd.ops, by rw [List.length_append]; exact Nat.le_succ_of_le hd.few⟩
  rw [hc]
  by_cases q : i + 1 ∈ done ∧ i < h.new.length
  · rw [if_pos q, if_pos ⟨List.mem_append_left _ q.1, q.2⟩]
  · rw [if_neg q, if_neg fun q' => ?_]
    rcases List.mem_append.mp q'.1 with q1 | q1
    · exact q ⟨q1, q'.2⟩
    · have := List.mem_singleton.mp q1
      lia
theorem DbSt.page (ok : h.Ok) (hd : DbSt h (some rs.length) rs done f) {b : Bs} (hp : 1 ≤ p) (e : h.new[p - 1]? = some b) (hs : p ∈ rs.map (·.1) ∨ h.old.length < p) : DbSt h (some rs.length) rs (done ++ [p]) (f.write ((p - 1) * 64) b) := by
  obtain ⟨cur, h64, en, hc⟩ := hd.cur
  have h1 := DbSt.curLen ok hc
  have h2 := ok.nlen
  have hb := ok.new64 b (List.mem_of_getElem? e)
  have hpn : p - 1 < h.new.length := (List.getElem?_eq_some_iff.mp e).1
  have hol := ok.olen
  have so : SafeOp ((rs.take rs.length).map (·.1)) h.old.length (.w ((p - 1) * 64) b) := ⟨p, hp, rfl, by exact Nat.le_of_eq (by assumption), by rw [List.take_length]; exact hs⟩
  have hle : Op.Le 640 (.w ((p - 1) * 64) b) := by show (p - 1) * 64 + b.length ≤ 640; lia
  refine ⟨fun x s => ?_, ?_, ⟨cur.take (p - 1) ++ b :: cur.drop (p - 1 + 1), fun b' hb' => ?_, ?_, fun i => ?_⟩, hd.sy, fun op ho => ?_, ?_⟩
  · obtain ⟨y, s1, s2⟩ := Surv.split s
    exact PlayOk.surv ok.old64 (hd.surv y s1) so s2
  · have hbe : b.take (8 * b.length) = b := List.take_of_length_le (by lia)
    have := SurvOp.w ((p - 1) * 64) b b.length f.now (by rw [hbe]; intro q; rw [q] at hb; cases hb)
    rw [hbe] at this
    exact PlayOk.surv ok.old64 hd.now so this
  · rcases List.mem_append.mp hb' with hb' | hb'
    · exact h64 b' (List.mem_of_mem_take hb')
    · rcases List.mem_cons.mp hb' with rfl | hb'
      · exact hb
      · exact h64 b' (List.mem_of_mem_drop hb')
  · show put f.now _ b = _
    rw [en, put_page h64 hb (by lia)]
  · rw [upd_get (by lia), hc]
    by_cases q : i = p - 1
    · rw [if_pos q, if_pos ⟨List.mem_append_right _ (List.mem_singleton.mpr (by lia)), by lia⟩, q, e]
    · refine rwg (if_neg q) ?_
      by_cases q1 : i + 1 ∈ done ∧ i < h.new.length
      · rw [if_pos q1, if_pos ⟨List.mem_append_left _ q1.1, q1.2⟩]
      · rw [if_neg q1, if_neg fun q' => ?_]
        rcases List.mem_append.mp q'.1 with q2 | q2
        · exact q1 ⟨q2, q'.2⟩
        · have := List.mem_singleton.mp q2
          lia
  · rcases List.mem_append.mp ho with ho | ho
    · exact hd.ops op ho
    · rw [List.mem_singleton.mp ho]; exact hle
  · show (f.pend ++ [_]).length ≤ (done ++ [p]).length
    refine rwg List.length_append ?_
    refine rwg List.length_append ?_
    exact Nat.succ_le_succ hd.few
theorem crash_of (ok : h.Ok) (hν : 0 ≤ ν ∧ ν < 4294967296) (hf : f.Bd) (hg : g.Bd) (hr : RecsOk h.old rs) (hl : rs.length ≤ 20)
    (hy : ∀ y, Surv g.pend g.synced y → ∃ c, JP ν h.old.length c rs y ∧ (∀ n, c = some n → n ≤ rs.length) ∧ ∀ x, Surv f.pend f.synced x → DP h.old c rs x) : CrashInv h.old h.new ⟨f, some g, st, cr⟩ := by
  refine ⟨hf, g, rfl, hg, fun x y sx sy => ?_⟩
  refine foldg fun G0 fin0 => ?_
  obtain ⟨c, j, cl, dp⟩ := hy y sy
  refine fin0 ?_
  have dp := dp x sx
  cases c with
  | none => exact .inl ⟨ν, hν, j, .inl dp⟩
  | some n =>
    have hn := cl n rfl
    have el : (rs.take n).length = n := by rw [List.length_take]; exact Nat.min_eq_left (by assumption)
    have j : y.take (24 + 72 * n) = headB n ν h.old.length ++ recsB ν (rs.take n) := j
    exact .inr ⟨ν, rs.take n, hν, by lia, by rw [el]; exact j, fun r hr' => hr r (List.mem_of_mem_take hr'), dp⟩
theorem JrS.crash (ok : h.Ok) (hν : 0 ≤ ν ∧ ν < 4294967296) (hj : JrS ν h.old.length c rs g) (hd : DbSt h c rs done f) (hl : done.length ≤ 80) (hr : RecsOk h.old rs) : CrashInv h.old h.new ⟨f, some g, st, cr⟩ :=
  crash_of ok hν (hd.bd ok hl) hj.bd hr (Nat.le_trans hj.rl (by decide)) fun y s => ⟨c, hj.surv y s, hj.le, hd.surv⟩
end
end Mine
end
section
namespace Mine
noncomputable def nRecs (old : List Bs) (l : List Nat) : List Rec := (l.filter fun p => decide (p ≤ old.length)).map fun p => (p, old.getD (p - 1) [])
noncomputable def nNew (new : List Bs) (l : List Nat) : Nat := (l.filter fun p => decide (p ≤ new.length)).length
noncomputable def nSync (c : Option Nat) (n : Nat) : Nat := if cI c = n then 0 else 3
theorem seq_at {L : List V} {i : Nat} {v : V} (h : L[i]? = some v) : (seqIndex? (i : Int) L.length).bind (L[·]?) = some v := by
  have hi : i < L.length := (List.getElem?_eq_some_iff.mp h).1
  unfold seqIndex?
  have h1 : ¬ (i : Int) < 0 := by exact Int.not_lt.mpr (Int.natCast_nonneg _)
  have h2 : (decide ((0 : Int) ≤ i) && decide ((i : Int) < L.length)) = true := by rw [Bool.and_eq_true, decide_eq_true_eq, decide_eq_true_eq]; exact ⟨Int.natCast_nonneg _, Int.ofNat_le.mpr (by assumption)⟩
  simp only [if_neg h1, h2, if_true, Option.bind_some, Int.toNat_natCast]
  exact h
section
variable {R σ : Store} {d fb fj j : Addr} {Q : V → Store → Prop} {X : Store → Prop} {m : Nat} {f g : AF} {ν : Int} {h : Chg} {c : Option Nat} {rs : List Rec} {done : List Nat} {st : Int} {cr : Option Int} {l : List Nat}
theorem nRecs_snoc {old : List Bs} {i p : Nat} (hp : l[i]? = some p) : nRecs old (l.take (i + 1)) = nRecs old (l.take i) ++ if p ≤ old.length then [(p, old.getD (p - 1) [])] else [] := by
  unfold nRecs
  rw [List.take_add_one, hp, List.filter_append, List.map_append]
  congr 1
  by_cases q : p ≤ old.length
  · rw [if_pos q]; simp [q]
  · rw [if_neg q]; simp [q]
theorem nNew_snoc {new : List Bs} {i p : Nat} (hp : l[i]? = some p) : nNew new (l.take (i + 1)) = nNew new (l.take i) + if p ≤ new.length then 1 else 0 := by
  unfold nNew
  rw [List.take_add_one, hp, List.filter_append, List.length_append]
  congr 1
  by_cases q : p ≤ new.length
  · rw [if_pos q]; simp [q]
  · rw [if_neg q]; simp [q]
theorem nRecs_ok {old : List Bs} (hl : ∀ p ∈ l, 1 ≤ p) : RecsOk old (nRecs old l) := fun r hr => by
  obtain ⟨p, hp, rfl⟩ := List.mem_map.mp hr
  have hp' := List.mem_filter.mp hp
  have := of_decide_eq_true hp'.2
  have h1 := hl p hp'.1
  refine ⟨h1, ?_⟩
  refine rwg (List.getElem?_eq_getElem (Nat.sub_one_lt_of_le h1 this)) ?_
  show _ = some (old.getD (p - 1) [])
  rw [List.getD_eq_getElem?_getD, List.getElem?_eq_getElem (Nat.sub_one_lt_of_le h1 this)]; rfl
theorem nRecs_mem {old : List Bs} {p : Nat} (hp : p ∈ l) (hl : p ≤ old.length) : p ∈ (nRecs old l).map (·.1) :=
  List.mem_map.mpr ⟨_, List.mem_map.mpr ⟨p, List.mem_filter.mpr ⟨hp, decide_eq_true hl⟩, rfl⟩, rfl⟩
theorem nRecs_len (old : List Bs) (l : List Nat) : (nRecs old l).length ≤ l.length := by
  unfold nRecs; rw [List.length_map]; exact List.length_filter_le ..
theorem RecsOk.app {old : List Bs} {rs2 : List Rec} (h1 : RecsOk old rs) (h2 : RecsOk old rs2) : RecsOk old (rs ++ rs2) := fun r hr => (List.mem_append.mp hr).elim (h1 r) (h2 r)
theorem c_lot (ok : h.Ok) (hν : 0 ≤ ν ∧ ν < 4294967296) (hl : ∀ p ∈ l, 1 ≤ p ∧ p ≤ 7) (hR : R j = none) (H : DiskAt (R.set j (jO d ν rs.length (cI c))) σ d fb fj ⟨f, some g, st, cr⟩) (hJ : JrS ν h.old.length c rs g) (hD : DbSt h c rs done f) (hr : RecsOk h.old rs) (hk : ∀ k, cr = some k → st < k)
    (hb : rs.length + l.length ≤ 9 ∧ done.length + l.length ≤ 20)
    (hX : ∀ σ' D' k, cr = some k → CrashInv h.old h.new D' → DiskAt R σ' d fb fj D' → X σ')
    (hQ : ∀ σ' f' g', JrS ν h.old.length (some (rs ++ nRecs h.old l).length) (rs ++ nRecs h.old l) g' → DbSt h (some (rs ++ nRecs h.old l).length) (rs ++ nRecs h.old l) (done ++ l) f' →
      (∀ k, cr = some k → st + (nRecs h.old l).length + nSync c (rs ++ nRecs h.old l).length + nNew h.new l < k) →
      DiskAt (R.set j (jO d ν (rs ++ nRecs h.old l).length (cI (some (rs ++ nRecs h.old l).length)))) σ' d fb fj ⟨f', some g', st + (nRecs h.old l).length + nSync c (rs ++ nRecs h.old l).length + nNew h.new l, cr⟩ → Q .none σ') :
    wCall tab (m + 5) .lLot [.ref j, .ref fb, pgV h.old, pgV h.new, lotV l] σ Q X := by
  have lt : ∀ n k, Nat.ble n k = true → n ≤ k := fun n k h => Nat.le_of_ble_eq_true h
  have ol := ok.olen
  have nl := ok.nlen
  have l9 : l.length ≤ 9 := Nat.le_trans (Nat.le_add_left _ _) hb.1
  have n7 : h.new.length ≤ 7 := Nat.le_trans nl.2 (Nat.succ_le_succ ol.2)
  have pl : ∀ ps : List Bs, (ps.map V.bytes).length = ps.length := fun ps => List.length_map ..
  have lx : ∀ o, Less R (R.set j o) := fun o => Less.of_new hR o
  refine call_of rfl ⟨_, _, .list _, by rw [List.length_map]; exact Nat.le_trans l9 (lt _ _ rfl), ?_⟩
  refine loop_inv (fun (i : Nat) ρ σ' => (∃ x : Option V, ρ = [some (.ref j), some (.ref fb), some (pgV h.old), some (pgV h.new), some (lotV l), x]) ∧ ∃ g' : AF, JrS ν h.old.length c (rs ++ nRecs h.old (l.take i)) g' ∧ (∀ k, cr = some k → st + (nRecs h.old (l.take i)).length < k) ∧
    DiskAt (R.set j (jO d ν (rs ++ nRecs h.old (l.take i)).length (cI c))) σ' d fb fj ⟨f, some g', st + (nRecs h.old (l.take i)).length, cr⟩) (fun u_ u_ u_ u_ => trivial) (fun i v ρ σ' K hv hI kn u_ u_ => ?_) (fun ρ σ' hI => ?_) ⟨⟨_, rfl⟩, g, by simpa [nRecs] using hJ, fun k e => by have := hk k e; simpa [nRecs] using this, by simpa [nRecs] using H⟩
  · refine foldg fun G0 fin0 => ?_
    obtain ⟨⟨x, rfl⟩, g', hJ', hk', H'⟩ := hI
    rw [List.getElem?_map] at hv
    obtain ⟨p, hp, rfl⟩ := Option.map_eq_some_iff.mp hv
    refine fin0 ?_
    have hpl := hl p (List.mem_of_getElem? hp)
    have es := nRecs_snoc (old := h.old) hp
    have hil : i < l.length := (List.getElem?_eq_some_iff.mp hp).1
    have hnl := nRecs_len h.old (l.take i)
    rw [List.length_take] at hnl
    refine ⟨lt _ _ rfl, _, .lenL _ (by rw [pl]; exact Nat.le_trans (And.right (by assumption)) (Nat.le_of_ble_eq_true rfl)), _, .le _ _, ?_⟩
    rw [pl]
    by_cases q : p ≤ h.old.length
    · rw [decide_eq_true (show (p : Int) ≤ h.old.length by exact Int.ofNat_le.mpr (by assumption))]
      rw [if_pos q] at es
      have eo : h.old[p - 1]? = some (h.old.getD (p - 1) []) := by rw [List.getD_eq_getElem?_getD, List.getElem?_eq_getElem (Nat.sub_one_lt_of_le hpl.1 q)]; rfl
      have o64 := ok.old64 _ (List.mem_of_getElem? eo)
      have hrok : RecsOk h.old (rs ++ nRecs h.old (l.take i)) := hr.app (nRecs_ok fun p hp => (hl p (List.mem_of_mem_take hp)).1)
      have hc : CrashInv h.old h.new ⟨f, some g', st + (nRecs h.old (l.take i)).length, cr⟩ := hJ'.crash ok hν (hD.app hJ.le) (by lia) hrok
      have hn9 : (rs ++ nRecs h.old (l.take i)).length ≤ 9 := by rw [List.length_append]; exact Nat.le_trans (Nat.add_le_add_left (Nat.le_trans hnl (Nat.min_le_right _ _)) _) hb.1
      have ee : ((p : Int) - 1) = ((p - 1 : Nat) : Int) := (Int.ofNat_sub hpl.1).symm
      refine ⟨_, .fn _ _ _ _ _ (H'.r (Store.self ..)) rfl rfl, _, .subI _ _, ?_⟩
      rw [ee]
      refine ⟨_, .list _ _ (.bytes (h.old.getD (p - 1) [])) (by rw [pl]; exact Nat.le_trans (And.right (by assumption)) (Nat.le_of_ble_eq_true rfl)) (seq_at (by rw [List.getElem?_map, eo]; rfl)), ?_⟩
      refine c_add H' (Store.self ..) rfl hJ'.bd.small (by exact Nat.le_trans (by assumption) (Nat.le_of_ble_eq_true rfl)) (by lia) o64 (fun σ2 hk2 H2 => ⟨trivial, kn _ _ ⟨⟨_, rfl⟩, g'.write (24 + 72 * (rs ++ nRecs h.old (l.take i)).length) (recB ν p (h.old.getD (p - 1) [])), ?_, ?_, ?_⟩⟩) fun k ek => x_of (hX _ _ k ek hc (H'.lessR (lx _)))
      · rw [es, ← List.append_assoc]; exact hJ'.add o64 hn9
      · intro k ek
        have : st + (nRecs h.old (l.take i)).length + 1 < k := hk2 k ek
        rw [es, List.length_append]; exact Int.lt_of_le_of_lt (Int.le_of_eq (Int.add_assoc st ((nRecs h.old (l.take i)).length : Int) 1).symm) this
      · rw [Store.set_set] at H2
        rw [es, ← List.append_assoc, List.length_append (as := _ ++ _), List.length_append (as := nRecs _ _)]
        have e1 : st + (((nRecs h.old (l.take i)).length + 1 : Nat) : Int) = st + (nRecs h.old (l.take i)).length + 1 := (Int.add_assoc st ((nRecs h.old (l.take i)).length : Int) 1).symm
        show DiskAt (R.set j (jO d ν (((rs ++ nRecs h.old (l.take i)).length + 1 : Nat) : Int) (cI c))) σ2 d fb fj ⟨f, _, st + (((nRecs h.old (l.take i)).length + 1 : Nat) : Int), cr⟩
        rw [e1]; exact H2
    · rw [decide_eq_false (show ¬(p : Int) ≤ h.old.length from fun w => q (Int.ofNat_le.mp w))]
      rw [if_neg q, List.append_nil] at es
      exact kn _ _ ⟨⟨_, rfl⟩, g', by rw [es]; exact hJ', by rw [es]; exact hk', by rw [es]; exact H'⟩
  · refine foldg fun G0 fin0 => ?_
    obtain ⟨⟨x, rfl⟩, g', hJ', hk', H'⟩ := hI
    have elm : (l.map fun (n : Nat) => V.int (n : Int)).length = l.length := List.length_map ..
    rw [elm, List.take_length] at hJ' hk' H'
    have hnl := nRecs_len h.old l
    have hrok : RecsOk h.old (rs ++ nRecs h.old l) := hr.app (nRecs_ok fun p hp => (hl p hp).1)
    obtain ⟨rs', ers⟩ : ∃ rs', rs' = rs ++ nRecs h.old l := ⟨_, rfl⟩
    refine fin0 ?_
    have hD' : DbSt h c rs' done f := ers ▸ hD.app hJ.le
    have hcov : ∀ p ∈ l, p ≤ h.old.length → p ∈ rs'.map (·.1) := fun p hp hle => by
      rw [ers, List.map_append]; exact List.mem_append_right _ (nRecs_mem hp hle)
    have hN : rs'.length ≤ 9 := by rw [ers, List.length_append]; exact Nat.le_trans (Nat.add_le_add_left hnl _) hb.1
    rw [← ers] at hJ' H' hQ hrok
    have hbd := hD.bd ok (by lia)
    have cont : ∀ σ2 g2 (s2 : Int), s2 = st + (nRecs h.old l).length + nSync c rs'.length → JrS ν h.old.length (some rs'.length) rs' g2 → (∀ k, cr = some k → s2 < k) → DiskAt (R.set j (jO d ν rs'.length rs'.length)) σ2 d fb fj ⟨f, some g2, s2, cr⟩ →
        wSs (wCall tab (m + 4)) (B.lLot.body.drop 2) [some (.ref j), some (.ref fb), some (pgV h.old), some (pgV h.new), some (lotV l), x] σ2 (fun fl u_ σ => wRet fl σ Q) fun u_ σ => wLess σ X := fun σ2 g2 s2 es hJ2 hk2 H2 => by
      refine ⟨_, _, .list _, by rw [elm]; exact Nat.le_trans l9 (lt _ _ rfl), ?_⟩
      refine loop_inv (fun (i : Nat) ρ σ' => (∃ x : Option V, ρ = [some (.ref j), some (.ref fb), some (pgV h.old), some (pgV h.new), some (lotV l), x]) ∧ ∃ f' : AF, DbSt h (some rs'.length) rs' (done ++ l.take i) f' ∧ (∀ k, cr = some k → s2 + nNew h.new (l.take i) < k) ∧
        DiskAt (R.set j (jO d ν rs'.length rs'.length)) σ' d fb fj ⟨f', some g2, s2 + nNew h.new (l.take i), cr⟩) (fun u_ u_ u_ u_ => trivial) (fun i v ρ σ' K hv hI kn u_ u_ => ?_) (fun ρ σ' hI => ?_) ⟨⟨_, rfl⟩, f, by rw [List.take_zero, List.append_nil]; exact hD'.up ok.old64, fun k e => by have := hk2 k e; simpa [nNew] using this, by simpa [nNew] using H2⟩
      · refine foldg fun G0 fin0 => ?_
        obtain ⟨⟨x, rfl⟩, f', hD3, hk3, H3⟩ := hI
        rw [List.getElem?_map] at hv
        obtain ⟨p, hp, rfl⟩ := Option.map_eq_some_iff.mp hv
        refine fin0 ?_
        have hpm := List.mem_of_getElem? hp
        have hpl := hl p hpm
        have es := nNew_snoc (new := h.new) hp
        have ed : done ++ l.take (i + 1) = done ++ l.take i ++ [p] := by rw [List.take_add_one, hp, List.append_assoc]; rfl
        have hil : i < l.length := (List.getElem?_eq_some_iff.mp hp).1
        refine ⟨lt _ _ rfl, _, .lenL _ (by rw [pl]; exact Nat.le_trans n7 (lt _ _ rfl)), _, .le _ _, ?_⟩
        rw [pl]
        by_cases q : p ≤ h.new.length
        · rw [decide_eq_true (show (p : Int) ≤ h.new.length by exact Int.ofNat_le.mpr (by assumption))]
          rw [if_pos q] at es
          obtain ⟨b, eb⟩ : ∃ b, h.new[p - 1]? = some b := ⟨_, List.getElem?_eq_getElem (Nat.sub_one_lt_of_le hpl.1 q)⟩
          have b64 := ok.new64 _ (List.mem_of_getElem? eb)
          have hdl : (done ++ l.take i).length ≤ 20 := by rw [List.length_append, List.length_take]; exact Nat.le_trans (Nat.add_le_add_left (Nat.min_le_right _ _) _) hb.2
          have hc : CrashInv h.old h.new ⟨f', some g2, s2 + nNew h.new (l.take i), cr⟩ := hJ2.crash ok hν hD3 (by exact Nat.le_trans (by assumption) (Nat.le_of_ble_eq_true rfl)) hrok
          have ee : ((p : Int) - 1) = ((p - 1 : Nat) : Int) := (Int.ofNat_sub hpl.1).symm
          have B := focusB H3
          refine ⟨_, (B.sel rfl fun u_ u_ u_ u_ u_ => rfl), _, .subI _ _, _, .mulI _ _ (mul_small (by lia)), _, .subI _ _, ?_⟩
          rw [ee]
          refine ⟨_, .list _ _ (.bytes b) (by rw [pl]; exact Nat.le_trans n7 (lt _ _ rfl)) (seq_at (by rw [List.getElem?_map, eb]; rfl)), ?_⟩
          rw [show (((p - 1 : Nat) : Int) * 64) = (((p - 1) * 64 : Nat) : Int) by exact rfl]
          refine d_write B (hD3.bd ok (by exact Nat.le_trans (by assumption) (Nat.le_of_ble_eq_true rfl))).small ⟨Nat.le_trans (Nat.mul_le_mul_right 64 (Nat.le_trans (Nat.sub_le _ _) hpl.2)) (lt _ _ rfl), by rw [b64]; exact lt _ _ rfl⟩ (fun σ4 hk4 H4 => ⟨trivial, kn _ _ ⟨⟨_, rfl⟩, f'.write ((p - 1) * 64) b, ?_, ?_, ?_⟩⟩) fun k ek u_ => x_of (hX _ _ k ek hc (H3.lessR (lx _)))
          · rw [ed]
            exact hD3.page ok hpl.1 eb (if q2 : p ≤ h.old.length then .inl (hcov p hpm q2) else .inr (by exact Nat.lt_of_not_le (by assumption)))
          · intro k ek
            have : s2 + nNew h.new (l.take i) + 1 < k := hk4 k ek
            rw [es]; exact Int.lt_of_le_of_lt (Int.le_of_eq (Int.add_assoc s2 (nNew h.new (l.take i) : Int) 1).symm) this
          · rw [es, show s2 + ((nNew h.new (l.take i) + 1 : Nat) : Int) = s2 + nNew h.new (l.take i) + 1 from (Int.add_assoc s2 (nNew h.new (l.take i) : Int) 1).symm]
            exact H4
        · rw [decide_eq_false (show ¬(p : Int) ≤ h.new.length from fun w => q (Int.ofNat_le.mp w))]
          rw [if_neg q, Nat.add_zero] at es
          exact kn _ _ ⟨⟨_, rfl⟩, f', by rw [ed]; exact hD3.skip (by exact Nat.lt_of_not_le (by assumption)), by rw [es]; exact hk3, by rw [es]; exact H3⟩
      · refine foldg fun G0 fin0 => ?_
        obtain ⟨⟨x, rfl⟩, f', hD3, hk3, H3⟩ := hI
        refine fin0 ?_
        rw [elm, List.take_length] at hD3 hk3 H3
        rw [es] at hk3 H3
        exact ret_none (hQ _ f' g2 hJ2 hD3 hk3 H3)
    have hb9 := hJ'.nowLen
    refine ⟨_, .fn _ _ _ _ _ (H'.r (Store.self ..)) rfl rfl, c_jsync H' (Store.self ..) rfl hJ'.bd.small hJ'.bd.now (by exact Nat.le_trans (by assumption) (Nat.le_of_ble_eq_true rfl)) (fun q => ⟨trivial, ?_⟩) (fun q σ2 hk2 H2 => ⟨trivial, ?_⟩) fun q σ2 k s2 g2 ek e2 H2 => x_of (hX σ2 ⟨f, some g2, s2, cr⟩ k ek ?_ (H2.lessR (lx _)))⟩
    · have hc : c = some rs'.length := by
        cases c with
        | none => have : (4294967295 : Int) = (rs'.length : Int) := q; lia
        | some n => have : (n : Int) = rs'.length := q; rw [Int.ofNat_inj.mp this]
      refine cont _ g' _ ?_ (hc ▸ hJ') hk' ?_
      · unfold nSync; rw [if_pos q]; exact (Int.add_zero _).symm
      · rw [q] at H'; exact H'
    · refine cont _ _ _ ?_ hJ'.count hk2 ?_
      · unfold nSync; rw [if_neg q]; rfl
      · rw [Store.set_set] at H2; exact H2
    · rcases e2 with rfl | rfl | rfl
      · exact hJ'.crash ok hν hD' (by lia) hrok
      · exact hJ'.sync.crash ok hν hD' (by lia) hrok
      · refine crash_of ok hν hbd hJ'.count_bd hrok (by exact Nat.le_trans (by assumption) (Nat.le_of_ble_eq_true rfl)) fun y s => ?_
        rcases hJ'.count_surv s with hy | hy
        · exact ⟨c, hy, hJ'.le, hD'.surv⟩
        · exact ⟨_, hy, fun n e => by cases e; exact Nat.le_refl _, (hD'.up ok.old64).surv⟩
end
end Mine
end
section
namespace Mine
noncomputable def fEnd (h : Chg) (f : AF) : AF := if h.new.length < h.old.length then f.trunc (h.new.length * 64) else f
noncomputable def lotSteps (h : Chg) (c : Option Nat) (rs : List Rec) (l : List Nat) : Nat := (nRecs h.old l).length + nSync c (rs ++ nRecs h.old l).length + nNew h.new l
noncomputable def nSteps (h : Chg) : Nat :=
  1 + lotSteps h none [] h.l1 + lotSteps h (some ([] ++ nRecs h.old h.l1).length) ([] ++ nRecs h.old h.l1) h.l2 + (if h.new.length < h.old.length then 1 else 0) + 2
section
variable {R σ : Store} {d fb fj j : Addr} {Q : V → Store → Prop} {X : Store → Prop} {m : Nat} {f g : AF} {ν : Int} {h : Chg} {c : Option Nat} {rs : List Rec} {done : List Nat} {st : Int} {cr : Option Int} {l : List Nat} {D : AD}
theorem chg_end (ok : h.Ok) (hd : DbSt h (some rs.length) rs (h.l1 ++ h.l2) f) (hc : ∀ p ∈ h.l1 ++ h.l2, p ≤ h.old.length → p ∈ rs.map (·.1)) :
    (fEnd h f).Bd ∧ (∀ x, Surv (fEnd h f).pend (fEnd h f).synced x → DP h.old (some rs.length) rs x) ∧ DP h.old (some rs.length) rs (fEnd h f).now ∧ (fEnd h f).now = h.new.flatten := by
  have few := ok.few
  have bd := hd.bd ok (by exact Nat.le_trans (by assumption) (Nat.le_of_ble_eq_true rfl))
  refine foldg fun G0 fin0 => ?_
  obtain ⟨cur, h64, en, hcur⟩ := hd.cur
  refine fin0 ?_
  have cl := DbSt.curLen ok hcur
  have ol := ok.olen
  have nl := ok.nlen
  have eqn : ∀ i, i < h.new.length → cur[i]? = h.new[i]? := fun i hi => by
    rw [hcur]
    split
    · rfl
    · rename_i q
      exact Decidable.byContradiction fun ne => q ⟨ok.cov i ne, hi⟩
  have cln : h.new.length ≤ cur.length := by
    have := eqn (h.new.length - 1) (by lia)
    rw [List.getElem?_eq_getElem (show h.new.length - 1 < h.new.length by lia)] at this
    have := (List.getElem?_eq_some_iff.mp this).1
    lia
  unfold fEnd
  by_cases q : h.new.length < h.old.length
  · refine rwg (if_pos q) ?_
    have so : SafeOp ((rs.take rs.length).map (·.1)) h.old.length (.t (h.new.length * 64)) := ⟨_, rfl, fun i h1 h2 => by
      rw [List.take_length]
      refine hc (i + 1) (ok.cov i ?_) (by assumption)
      rw [List.getElem?_eq_getElem h2, List.getElem?_eq_none h1]; exact nofun⟩
    refine ⟨⟨bd.sy, ?_, fun op ho => ?_, ?_⟩, fun x s => ?_, PlayOk.surv ok.old64 hd.now so (.t _ _), ?_⟩
    · show (cutTo _ _).length ≤ _
      rw [cutTo_len]; lia
    · rcases List.mem_append.mp ho with ho | ho
      · exact bd.ops op ho
      · rw [List.mem_singleton.mp ho]
        show h.new.length * 64 ≤ 9000
        lia
    · show (f.pend ++ [_]).length ≤ _
      have := hd.few
      rw [List.length_append]; show _ + 1 ≤ _; lia
    · refine foldg fun G0 fin0 => ?_
      obtain ⟨y, s1, s2⟩ := Surv.split s
      refine fin0 ?_
      exact PlayOk.surv ok.old64 (hd.surv y s1) so s2
    · show cutTo f.now _ = _
      have et : cur.take h.new.length = h.new := List.ext_getElem? fun i => by
        rw [List.getElem?_take]
        split
        · rename_i hi; exact eqn i hi
        · rw [List.getElem?_eq_none (by lia)]
      have hl := fl_len h64
      unfold cutTo
      rw [en]
      by_cases q2 : h.new.length * 64 < cur.flatten.length
      · rw [if_pos q2, show h.new.length * 64 = 64 * h.new.length by lia, fl_take _ h64, et]
      · rw [if_neg q2, show h.new.length * 64 - cur.flatten.length = 0 by lia, List.replicate_zero, List.append_nil, ← et, List.take_of_length_le (by lia)]
  · rw [if_neg q]
    refine ⟨bd, hd.surv, hd.now, ?_⟩
    rw [en]
    congr 1
    refine List.ext_getElem? fun i => ?_
    by_cases hi : i < h.new.length
    · exact eqn i hi
    · rw [hcur, if_neg fun q => hi q.2, List.getElem?_eq_none (by lia), List.getElem?_eq_none (by lia)]
theorem e_new_journal {ρ : Loc} (hρ : ρ[0]? = some (some (.ref d))) (H : DiskAt R σ d fb fj D) (q : ∀ σ' j, R j = none → DiskAt (R.set j (jO d 0 (0 : Nat) NS)) σ' d fb fj D → Q (.ref j) σ') : wE (wCall tab (m + 1)) (.call (.g "Journal") [(.x 0), (.c (.str "db")), (.c (.int 64))]) ρ σ Q X :=
  locP_i hρ (new_journal H q)
set_option maxHeartbeats 8000000 in
theorem c_changed (ok : h.Ok) (hν : 0 ≤ ν ∧ ν < 4294967296) (H : DiskAt R σ d fb fj ⟨⟨h.old.flatten, [], h.old.flatten⟩, none, st, cr⟩) (hk : ∀ k, cr = some k → st < k)
    (hX : ∀ σ' fj' D' k, cr = some k → CrashInv h.old h.new D' → DiskAt R σ' d fb fj' D' → X σ')
    (hQ : ∀ σ' fj', (∀ k, cr = some k → st + nSteps h < k) → DiskAt R σ' d fb fj' ⟨⟨h.new.flatten, [], h.new.flatten⟩, none, st + nSteps h, cr⟩ → Q .none σ') :
    wCall tab (m + 6) .lChanged [.ref d, .ref fb, h.v, .int ν] σ Q X := by
  have lt : ∀ n k, Nat.ble n k = true → n ≤ k := fun n k h => Nat.le_of_ble_eq_true h
  have ol := ok.olen
  have nl := ok.nlen
  have few := ok.few
  rw [List.length_append] at few
  have pl : ∀ ps : List Bs, (ps.map V.bytes).length = ps.length := fun ps => List.length_map ..
  have hfl := fl_len ok.old64
  refine call_of rfl ⟨_, .inl rfl, ⟨rfl, by decide, tgt_ok 9 rfl rfl⟩, ?_⟩
  refine w_cons (s_asg' (e_new_journal rfl H fun σ1 j hR H1 => ⟨lt _ _ rfl, ?_⟩))
  have lx : ∀ o, Less R (R.set j o) := fun o => Less.of_new hR o
  refine ⟨_, .fn _ _ _ _ _ (H1.r (Store.self ..)) rfl rfl, _, .lenL _ (by rw [pl]; lia), ?_⟩
  rw [pl]
  have D0 : DbSt h none [] [] ⟨h.old.flatten, [], h.old.flatten⟩ := ⟨fun x s => s.done, rfl, ⟨h.old, ok.old64, rfl, fun i => by rw [if_neg fun q => nomatch q.1]⟩, by show h.old.flatten.length ≤ _; lia, nofun, Nat.le_refl _⟩
  refine c_begin H1 (Store.self ..) rfl hν (by lia) (fun σ2 fj2 hk2 H2 => ⟨trivial, ?_⟩) fun σ2 fj2 k ek H2 => x_of (hX σ2 fj2 ⟨⟨h.old.flatten, [], h.old.flatten⟩, some .new, st, cr⟩ k ek ?_ (H2.lessR fun a o e => by rw [Store.set_set]; exact lx _ a o e))
  rotate_left
  · exact crash_of (rs := []) ok hν (D0.bd ok (lt _ _ rfl)) ⟨lt _ _ rfl, lt _ _ rfl, nofun, lt _ _ rfl⟩ nofun (lt _ _ rfl) fun y s => ⟨none, by rw [s.done]; exact ⟨0, 0, by decide, rfl⟩, nofun, fun x s => s.done⟩
  rw [Store.set_set] at H2
  refine ⟨_, _, .list _, lt _ _ rfl, trivial, lt _ _ rfl, ?_⟩
  have p1 : ∀ p ∈ h.l1, 1 ≤ p ∧ p ≤ 7 := fun p hp => ok.pos p (List.mem_append_left _ hp)
  have p2 : ∀ p ∈ h.l2, 1 ≤ p ∧ p ≤ 7 := fun p hp => ok.pos p (List.mem_append_right _ hp)
  refine c_lot (rs := []) (c := none) (done := []) ok hν p1 hR H2 jst_new D0 nofun hk2 (by simp; lia) (fun σ' D' k ek hc H' => x_of (hX σ' fj2 D' k ek hc H')) fun σ3 f3 g3 hJ3 hD3 hk3 H3 => ⟨trivial, trivial, lt _ _ rfl, ?_⟩
  have n1 := nRecs_len h.old h.l1
  have rk1 : RecsOk h.old ([] ++ nRecs h.old h.l1) := RecsOk.app nofun (nRecs_ok fun p hp => (p1 p hp).1)
  refine c_lot ok hν p2 hR H3 hJ3 hD3 rk1 hk3 (by simp; lia) (fun σ' D' k ek hc H' => x_of (hX σ' fj2 D' k ek hc H')) fun σ4 f4 g4 hJ4 hD4 hk4 H4 => ⟨trivial, trivial, ?_⟩
  have rk2 := rk1.app (nRecs_ok (l := h.l2) fun p hp => (p2 p hp).1)
  have hcov : ∀ p ∈ h.l1 ++ h.l2, p ≤ h.old.length → p ∈ ([] ++ nRecs h.old h.l1 ++ nRecs h.old h.l2).map (fun r : Rec => r.1) := fun p hp hle => by
    rw [List.map_append, List.nil_append]
    rcases List.mem_append.mp hp with hp | hp
    · exact List.mem_append_left _ (nRecs_mem hp hle)
    · exact List.mem_append_right _ (nRecs_mem hp hle)
  refine foldg fun G0 fin0 => ?_
  obtain ⟨rs, ers⟩ : ∃ rs, rs = [] ++ nRecs h.old h.l1 ++ nRecs h.old h.l2 := ⟨_, rfl⟩
  obtain ⟨S, eS⟩ : ∃ S, S = st + 1 + (nRecs h.old h.l1).length + nSync none ([] ++ nRecs h.old h.l1).length + nNew h.new h.l1 + (nRecs h.old h.l2).length + nSync (some ([] ++ nRecs h.old h.l1).length) ([] ++ nRecs h.old h.l1 ++ nRecs h.old h.l2).length + nNew h.new h.l2 := ⟨_, rfl⟩
  refine fin0 ?_
  have hk4 : ∀ k, cr = some k → S < k := fun k e => by rw [eS]; exact hk4 k e
  have H4 : DiskAt (R.set j (jO d ν rs.length rs.length)) σ4 d fb fj2 ⟨f4, some g4, S, cr⟩ := by rw [eS, ers]; exact H4
  rw [← ers] at hJ4 hD4 rk2 hcov
  refine foldg fun G0 fin0 => ?_
  obtain ⟨E1, E2, E3, E4⟩ := chg_end ok hD4 hcov
  refine fin0 ?_
  have rl : rs.length ≤ 20 := Nat.le_trans hJ4.rl (lt _ _ rfl)
  have fin : ∀ σ5 (ρ : Loc) s5, s5 = S + (if h.new.length < h.old.length then 1 else 0 : Nat) → ρ[1]? = some (some (.ref fb)) → ρ[7]? = some (some (.ref j)) → (∀ k, cr = some k → s5 < k) → DiskAt (R.set j (jO d ν rs.length rs.length)) σ5 d fb fj2 ⟨fEnd h f4, some g4, s5, cr⟩ →
      wSs (wCall tab (m + 5)) (B.lChanged.body.drop 5) ρ σ5 (fun fl u_ σ => wRet fl σ Q) fun u_ σ => wLess σ X := fun σ5 ρ s5 es h1 h7 hk5 H5 => by
    have B := focusB H5
    refine locP_i h1 ⟨_, (B.sel rfl fun u_ u_ u_ u_ u_ => rfl), d_sync B E1.small (fun σ6 hk6 H6 => ⟨trivial, ?_⟩) fun k ek u_ => x_of (hX _ _ _ k ek (crash_of ok hν E1 hJ4.bd rk2 rl fun y s => ⟨_, hJ4.surv y s, hJ4.le, E2⟩) (H5.lessR (lx _)))⟩
    refine locP_i h7 ⟨_, .fn _ _ _ _ _ (H6.r (Store.self ..)) rfl rfl, c_fin H6 (Store.self ..) rfl (fun σ7 hk7 H7 => ⟨trivial, ret_none (hQ σ7 fj2 ?_ ?_)⟩) fun k ek => x_of (hX σ6 fj2 ⟨(fEnd h f4).sync, some g4, s5 + 1, cr⟩ k ek (crash_of ok hν ⟨E1.now, E1.now, nofun, lt _ _ rfl⟩ hJ4.bd rk2 rl fun y s => ⟨_, hJ4.surv y s, hJ4.le, fun x sx => by rw [sx.done]; exact E3⟩) (H6.lessR (lx _)))⟩
    · intro k ek
      have : s5 + 1 + 1 < k := hk7 k ek
      unfold nSteps lotSteps
      lia
    · have e : (fEnd h f4).sync = ⟨h.new.flatten, [], h.new.flatten⟩ := by
        show AF.mk (fEnd h f4).now [] (fEnd h f4).now = _
        rw [E4]
      have es2 : s5 + 1 + 1 = st + nSteps h := by unfold nSteps lotSteps; lia
      have H8 : DiskAt (R.set j (jO d ν rs.length rs.length)) σ7 d fb fj2 ⟨(fEnd h f4).sync, none, s5 + 1 + 1, cr⟩ := H7
      rw [e, es2] at H8
      exact H8.lessR (lx _)
  refine ⟨_, .lenL _ (by rw [pl]; lia), _, .lenL _ (by rw [pl]; lia), _, .lt _ _, ?_⟩
  rw [pl, pl]
  by_cases q : h.new.length < h.old.length
  · rw [decide_eq_true (show (h.new.length : Int) < h.old.length by lia)]
    have B := focusB H4
    have ef : f4.trunc (h.new.length * 64) = fEnd h f4 := by unfold fEnd; rw [if_pos q]
    refine ⟨_, (B.sel rfl fun u_ u_ u_ u_ u_ => rfl), _, .lenL _ (by rw [pl]; lia), _, .mulI _ _ (mul_small (by decide)), ?_⟩
    rw [pl, show ((h.new.length : Int) * 64) = ((h.new.length * 64 : Nat) : Int) by lia]
    have dl : (h.l1 ++ h.l2).length ≤ 80 := by rw [List.length_append]; exact Nat.le_trans (by assumption) (Nat.le_of_ble_eq_true rfl)
    refine d_trunc B (hD4.bd ok dl).small (by lia) (fun σ5 hk5 H5 => ⟨trivial, fin σ5 _ (S + 1) (by rw [if_pos q]; rfl) rfl rfl hk5 (ef ▸ H5)⟩) fun k ek u_ => x_of (hX _ _ _ k ek (hJ4.crash ok hν hD4 dl rk2) (H4.lessR (lx _)))
  · rw [decide_eq_false (show ¬(h.new.length : Int) < h.old.length by lia)]
    have ef : f4 = fEnd h f4 := by unfold fEnd; rw [if_neg q]
    exact fin σ4 _ S (by rw [if_neg q]; lia) rfl rfl hk4 (by rw [← ef]; exact H4)
end
end Mine
end
section
namespace Mine
structure PG (x : Bs) (cov : List Nat) (n k : Nat) (g : AF) : Prop where
  sy : g.synced = x
  now : g.now.length ≤ 9000
  ops : ∀ op ∈ g.pend, SafeOp cov n op ∧ op.Le 9000
  few : g.pend.length ≤ k
section
variable {R σ : Store} {d fb fj j : Addr} {Q : V → Store → Prop} {X : Store → Prop} {m : Nat} {f g : AF} {ν : Int} {rs : List Rec} {st : Int} {cr : Option Int} {D : AD} {x y z : Bs} {old new : List Bs} {cov : List Nat} {n k pc : Nat}
theorem PG.write (h : PG x cov n k g) {r : Rec} (hr : RecOk n r) (hc : r.1 ∈ cov) (hn : n ≤ 10) : PG x cov n (k + 1) (g.write ((r.1 - 1) * 64) r.2) := by
  have h1 := hr.lo
  have h2 := hr.hi
  have h3 := hr.len
  have h4 := h.now
  refine ⟨h.sy, by show (put _ _ _).length ≤ _; rw [put_len]; lia, fun op ho => ?_, by show (g.pend ++ [_]).length ≤ _; rw [List.length_append]; exact Nat.succ_le_succ h.few⟩
  refine foldg fun G0 fin0 => ?_
  rcases List.mem_append.mp ho with ho | ho
  · refine fin0 ?_
    exact h.ops op ho
  · refine fin0 ?_
    refine rwg (List.mem_singleton.mp ho) ?_
    exact ⟨⟨r.1, h1, rfl, by exact Nat.le_of_eq (by assumption), .inl hc⟩, by show _ + _ ≤ 9000; lia⟩
theorem PG.plays (hn : n ≤ 10) {rs : List Rec} : ∀ {g : AF} {k : Nat}, PG x cov n k g → (∀ r ∈ rs, RecOk n r ∧ r.1 ∈ cov) → PG x cov n (k + rs.length) (plays g rs) := by
  induction rs with
  | nil => exact fun h u_ => h
  | cons r rs ih =>
    intro g k h hr
    have := hr r (.head _)
    have := ih (h.write this.1 this.2 hn) fun r' hr' => hr r' (.tail _ hr')
    rwa [Nat.add_assoc, Nat.add_comm 1] at this
theorem PG.end_ (h : PG x cov n k g) (hn : n ≤ 10) : PG x cov n (k + 1) (dbEnd g n) := by
  unfold dbEnd
  split
  · exact ⟨h.sy, h.now, h.ops, Nat.le_succ_of_le h.few⟩
  · refine ⟨h.sy, by show (cutTo _ _).length ≤ _; rw [cutTo_len]; lia, fun op ho => ?_, by show (g.pend ++ [_]).length ≤ _; rw [List.length_append]; exact Nat.succ_le_succ h.few⟩
    refine foldg fun G0 fin0 => ?_
    rcases List.mem_append.mp ho with ho | ho
    · refine fin0 ?_
      exact h.ops op ho
    · refine fin0 ?_
      refine rwg (List.mem_singleton.mp ho) ?_
      exact ⟨⟨n, rfl, fun i h1 h2 => absurd h2 (by exact Nat.not_lt.mpr (by assumption))⟩, by show n * 64 ≤ 9000; lia⟩
theorem PG.crash (h : PG x (rs.map (·.1)) old.length k g) (h64 : P64 old) (hk : k ≤ 90) (hx : x.length ≤ 9000) (hz : z.length ≤ 9000) (hν : 0 ≤ ν ∧ ν < 4294967296) (hl : rs.length ≤ 20) (hz24 : z.take (24 + 72 * rs.length) = headB rs.length ν old.length ++ recsB ν rs) (hr : RecsOk old rs) (hp : PlayOk (rs.map (·.1)) old x) :
    CrashInv old new ⟨g, some ⟨z, [], z⟩, st, cr⟩ := by
  refine ⟨⟨by rw [h.sy]; exact hx, h.now, fun op ho => (h.ops op ho).2, Nat.le_trans h.few hk⟩, _, rfl, ⟨hz, hz, (List.forall_mem_nil _), Nat.zero_le _⟩, fun x' y' sx sy => ?_⟩
  have ey : y' = z := sy.done
  subst ey
  refine .inr ⟨ν, rs, hν, hl, hz24, hr, ?_⟩
  have sx : Surv g.pend g.synced x' := sx
  rw [h.sy] at sx
  exact sx.inv (P := PlayOk (rs.map (·.1)) old) hp fun op ho a b ha so => ha.surv h64 (h.ops op ho).1 so
theorem cold_cases (h : Cold ν pc y) : (y.length < 24 ∨ y.take 8 ≠ magic ∨ ofBig ((y.drop 20).take 4) = 0) ∨ y.take 24 = headB NS ν pc := by
  refine foldg fun G0 fin0 => ?_
  obtain ⟨k, m, ⟨hk, hm⟩, e⟩ := h
  refine fin0 ?_
  have hl := headB_len NS ν pc
  by_cases h24 : y.length < 24
  · exact .inl (.inl h24)
  have el := congrArg List.length e
  rw [List.length_take, List.length_append, List.length_take, hl, List.length_replicate] at el
  have e8 : y.take 8 = ((headB NS ν pc).take (8 * k) ++ List.replicate m 0).take 8 := by rw [← e, List.take_take]; rfl
  have e20 : (y.drop 20).take 4 = ((headB NS ν pc).take (8 * k) ++ List.replicate m 0).drop 20 := by rw [← e, List.drop_take]
  have hk' : k = 0 ∨ k = 1 ∨ k = 2 ∨ k = 3 := by lia
  rcases hk' with rfl | rfl | rfl | rfl
  · refine .inl (.inr (.inl ?_))
    have : m = 24 := by lia
    subst this
    rw [e8]; exact fun q => by cases q
  · refine .inl (.inr (.inr ?_))
    have : m = 16 := by lia
    subst this
    rw [e20, show 20 = 8 + 12 from rfl, ← List.drop_drop, List.drop_left' (by rw [List.length_take, hl]; rfl)]; rfl
  · refine .inl (.inr (.inr ?_))
    have : m = 8 := by lia
    subst this
    rw [e20, show 20 = 16 + 4 from rfl, ← List.drop_drop, List.drop_left' (by rw [List.length_take, hl]; rfl)]; rfl
  · right
    have : m = 0 := by lia
    subst this
    rw [e, List.replicate_zero, List.append_nil, List.take_of_length_le (by assumption)]
theorem e_open_journal {ρ : Loc} (hρ : ρ[0]? = some (some (.ref d))) (H : DiskAt R σ d fb fj D) (q : ∀ σ' j, R j = none → DiskAt (R.set j (jO d 0 (0 : Nat) NS)) σ' d fb fj D → Q (.tup [.ref fb, .ref j]) σ') :
    wE (wCall tab (m + 1)) (.tup [(.meth (.x 0) "open" [(.c (.str "db"))]), (.call (.g "Journal") [(.x 0), (.c (.str "db")), (.c (.int 64))])]) ρ σ Q X := by
  refine foldg fun G0 fin0 => ?_
  obtain ⟨_, _, _, hd⟩ := H.dsk
  refine fin0 ?_
  exact locP_i hρ ⟨_, .fn _ _ _ _ _ hd rfl rfl, d_openB H (e_new_journal hρ H fun σ' j hR H' => ⟨Nat.le_of_ble_eq_true rfl, q σ' j hR H'⟩)⟩
noncomputable def jF (y : Option Bs) : Option AF := y.map fun z => ⟨z, [], z⟩
theorem c_recovered {y : Option Bs} (h64 : P64 old) (hol : old.length ≤ 10) (H : DiskAt R σ d fb fj ⟨⟨x, [], x⟩, jF y, st, cr⟩) (hx : x.length ≤ 9000) (hy : ∀ z, y = some z → z.length ≤ 9000) (hr : RecR old new x y)
    (hX : ∀ σ' D' k, cr = some k → CrashInv old new D' → DiskAt R σ' d fb fj D' → X σ')
    (hQ : ∀ σ' r s', r = old.flatten ∨ r = new.flatten → r.length ≤ 9000 → (y = none → s' = st) → DiskAt R σ' d fb fj ⟨⟨r, [], r⟩, none, s', cr⟩ → Q (.bytes r) σ') : wCall tab (m + 7) .lRecovered [.ref d] σ Q X := by
  have lt : ∀ n k, Nat.ble n k = true → n ≤ k := fun n k h => Nat.le_of_ble_eq_true h
  have l9 : ∀ n, n ≤ 9000 → n ≤ 10000 := fun n h => Nat.le_trans h (lt _ _ rfl)
  refine call_of rfl ?_
  refine w_cons (s_asg' (e_open_journal rfl H fun σ1 j hR H1 => ⟨_, .inl rfl, ⟨rfl, by decide, tgt_ok 3 rfl rfl⟩, ?_⟩))
  have lx : ∀ o, Less R (R.set j o) := fun o => Less.of_new hR o
  refine foldg fun G0 fin0 => ?_
  obtain ⟨_, _, _, hd⟩ := H1.dsk
  refine fin0 ?_
  have fin : ∀ σ2 r s2, r = old.flatten ∨ r = new.flatten → r.length ≤ 9000 → (y = none → s2 = st) → DiskAt (R.set j (jO d 0 (0 : Nat) NS)) σ2 d fb fj ⟨⟨r, [], r⟩, none, s2, cr⟩ →
      wSs (wCall tab (m + 6)) (B.lRecovered.body.drop 2) [some (.ref d), some (.ref fb), some (.ref j)] σ2 (fun fl u_ σ => wRet fl σ Q) fun u_ σ => wLess σ X := fun σ2 r s2 hr hl he H2 => by
    have B := focusB H2
    have sm : (AF.mk r [] r).Small := ⟨l9 _ hl, lt _ _ rfl⟩
    refine ⟨_, (B.sel rfl fun u_ u_ u_ u_ u_ => rfl), _, (B.sel rfl fun u_ u_ u_ u_ u_ => rfl), d_size B sm (d_read (i := 0) (n := r.length) B sm (ret_of ?_))⟩
    rw [sl_nat r 0 r.length, List.drop_zero, List.take_length]
    exact hQ σ2 r s2 hr hl he (H2.lessR (lx _))
  cases y with
  | none =>
    refine ⟨_, .fn _ _ _ _ _ hd rfl rfl, d_exists H1 (?_)⟩
    exact fin σ1 x st hr hx (fun u_ => rfl) H1
  | some z =>
    have hz := hy z rfl
    have jsm : (AF.mk z [] z).Small := ⟨l9 _ hz, lt _ _ rfl⟩
    have jbd : (AF.mk z [] z).Bd := ⟨hz, hz, (List.forall_mem_nil _), Nat.zero_le _⟩
    refine ⟨_, .fn _ _ _ _ _ hd rfl rfl, d_exists H1 (?_)⟩
    refine foldg fun G0 fin0 => ?_
    rcases hr with ⟨ν, hν, hcold, hxx⟩ | ⟨ν, rs, hν, hl, hz24, hro, hp⟩
    · refine fin0 ?_
      refine ⟨_, .fn _ _ _ _ _ (H1.r (Store.self ..)) rfl rfl, c_hot0 H1 (Store.self ..) rfl jsm hν (by lia) (cold_cases hcold) (?_)⟩
      refine ⟨_, .fn _ _ _ _ _ (H1.r (Store.self ..)) rfl rfl, c_fin H1 (Store.self ..) rfl (fun σ2 hk2 H2 => ⟨trivial, fin σ2 x _ hxx hx nofun H2⟩) fun k ek => x_of (hX σ1 ⟨⟨x, [], x⟩, some ⟨z, [], z⟩, st, cr⟩ k ek ?_ (H1.lessR (lx _)))⟩
      exact ⟨⟨hx, hx, (List.forall_mem_nil _), Nat.zero_le _⟩, _, rfl, jbd, fun x' y' sx sy => by rw [sx.done, sy.done]; exact .inl ⟨ν, hν, hcold, hxx⟩⟩
    · refine fin0 ?_
      have hd24 : z.take 24 = headB rs.length ν old.length := by
        have := congrArg (List.take 24) hz24
        rwa [List.take_take, List.take_left' (headB_len ..), Nat.min_eq_left (by exact Nat.le_add_right _ _)] at this
      have hrok : ∀ r ∈ rs, RecOk old.length r := fun r hr => by
        have h1 := hro r hr
        have h2 := (List.getElem?_eq_some_iff.mp h1.2).1
        exact ⟨h1.1, by lia, h64 _ (List.mem_of_getElem? h1.2)⟩
      have hzl : 24 + 72 * rs.length ≤ z.length := by
        have := congrArg List.length hz24
        rw [List.length_take, List.length_append, headB_len, recsB_len fun r hr => (hrok r hr).len] at this
        lia
      have pg0 : PG x (rs.map (·.1)) old.length 0 ⟨x, [], x⟩ := ⟨rfl, hx, (List.forall_mem_nil _), Nat.le_refl _⟩
      have pgs : ∀ i, PG x (rs.map (·.1)) old.length (0 + (rs.take i).length) (plays ⟨x, [], x⟩ (rs.take i)) := fun i => pg0.plays hol fun r hr => ⟨hrok r (List.mem_of_mem_take hr), List.mem_map.mpr ⟨r, List.mem_of_mem_take hr, rfl⟩⟩
      have til : ∀ i, (rs.take i).length ≤ 20 := fun i => by rw [List.length_take]; exact Nat.le_trans (Nat.min_le_right _ _) (by assumption)
      have pgr := pgs rs.length
      rw [List.take_length] at pgr
      have cinv : ∀ {g k} s', PG x (rs.map (·.1)) old.length k g → k ≤ 90 → CrashInv old new ⟨g, some ⟨z, [], z⟩, s', cr⟩ := fun s' h hk => h.crash h64 hk hx hz hν hl hz24 hro hp
      have eend : (dbEnd (plays ⟨x, [], x⟩ rs) old.length).now = old.flatten := PlayOk.end_ h64 (PlayOk.plays h64 hro hp)
      have ofl : old.flatten.length ≤ 9000 := by rw [fl_len h64]; lia
      refine ⟨_, .fn _ _ _ _ _ (H1.r (Store.self ..)) rfl rfl, c_hot1 H1 (Store.self ..) rfl jsm hν (by lia) (by exact Nat.le_trans (by assumption) (Nat.le_of_ble_eq_true rfl)) hd24 hzl (?_)⟩
      refine ⟨_, .fn _ _ _ _ _ (H1.r (Store.self ..)) rfl rfl, c_play H1 (Store.self ..) rfl jsm hν (by exact Nat.le_trans (by assumption) (Nat.le_of_ble_eq_true rfl)) hrok (by exact Nat.le_trans (by assumption) (Nat.le_of_ble_eq_true rfl)) hz24 (fun i => ⟨(pgs i).now, Nat.le_trans (pgs i).few (by have := til i; lia)⟩) (fun σ2 s2 hk2 H2 => ⟨trivial, ?_⟩) fun σ2 s2 k g ek eg H2 => x_of (hX σ2 ⟨g, some ⟨z, [], z⟩, s2, cr⟩ k ek ?_ (H2.lessR (lx _)))⟩
      · have H2 : DiskAt (R.set j (jO d 0 (0 : Nat) NS)) σ2 d fb fj ⟨(dbEnd (plays ⟨x, [], x⟩ rs) old.length).sync, some ⟨z, [], z⟩, s2, cr⟩ := H2
        have e : (dbEnd (plays ⟨x, [], x⟩ rs) old.length).sync = ⟨old.flatten, [], old.flatten⟩ := by
          show AF.mk (dbEnd _ _).now [] (dbEnd _ _).now = _
          rw [eend]
        rw [e] at H2
        refine ⟨_, .fn _ _ _ _ _ (H2.r (Store.self ..)) rfl rfl, c_fin H2 (Store.self ..) rfl (fun σ3 hk3 H3 => ⟨trivial, fin σ3 old.flatten _ (.inl rfl) ofl nofun H3⟩) fun k ek => x_of (hX σ2 ⟨⟨old.flatten, [], old.flatten⟩, some ⟨z, [], z⟩, s2, cr⟩ k ek ?_ (H2.lessR (lx _)))⟩
        exact ⟨⟨ofl, ofl, (List.forall_mem_nil _), Nat.zero_le _⟩, _, rfl, jbd, fun x' y' sx sy => by rw [sx.done, sy.done]; exact .inr ⟨ν, rs, hν, hl, hz24, hro, PlayOk.self h64⟩⟩
      · refine foldg fun G0 fin0 => ?_
        rcases eg with ⟨i, rfl⟩ | rfl
        · refine fin0 ?_
          exact cinv s2 (pgs i) (by have := til i; lia)
        · refine fin0 ?_
          exact cinv s2 (pgr.end_ hol) (by lia)
end
end Mine
end
section
namespace Mine
noncomputable def stAt (cs : List Chg) (i : Nat) : Nat := ((cs.take i).map nSteps).sum
noncomputable def pgAt (first : List Bs) (cs : List Chg) (i : Nat) : List Bs := (cs.take i).getLast?.elim first Chg.new
section
variable {R σ : Store} {d fb fj sa ca da a : Addr} {Q : V → Store → Prop} {X : Store → Prop} {m : Nat} {st : Int} {cr : Option Int} {D : AD} {o : O} {first : List Bs} {cs : List Chg}
theorem stAt_snoc {i : Nat} {c : Chg} (h : cs[i]? = some c) : stAt cs (i + 1) = stAt cs i + nSteps c := by
  unfold stAt
  rw [List.take_add_one, h, List.map_append, List.sum_append]; simp
theorem pgAt_snoc {i : Nat} {c : Chg} (h : cs[i]? = some c) : pgAt first cs (i + 1) = c.new := by
  unfold pgAt
  rw [List.take_add_one, h, List.getLast?_append]; rfl
theorem Linked.at {cs : List Chg} : ∀ {a : List Bs} {i : Nat} {c : Chg}, Linked a cs → cs[i]? = some c → c.old = pgAt a cs i := by
  induction cs with
  | nil => exact nofun
  | cons b cs ih =>
    intro a i c l h
    cases i with
    | zero => cases h; exact l.1
    | succ i =>
      have := ih (i := i) l.2 h
      refine rwg this ?_
      unfold pgAt
      refine rwg List.take_succ_cons ?_
      cases q : cs.take i with
      | nil => rfl
      | cons x xs => rw [List.getLast?_cons_cons, List.getLast?_eq_some_getLast (List.cons_ne_nil _ _)]; rfl
theorem DiskAt.crash (H : DiskAt R σ d fb fj D) : ∃ fd sh lk, σ d = some (dO fd sh lk D.st D.cr) ∧ ∀ c', DiskAt R (σ.set d (dO fd sh lk D.st c')) d fb fj ⟨D.db, D.jr, D.st, c'⟩ := by
  refine foldg fun G0 fin0 => ?_
  obtain ⟨fd, sh, lk, pb, nb, pj, nj, H⟩ := H
  refine fin0 ?_
  exact ⟨fd, sh, lk, H.get 0 rfl, fun c' => ⟨fd, sh, lk, pb, nb, pj, nj, H.sets 0 rfl (dO fd sh lk D.st c')⟩⟩
theorem e_tup {call : CallT} {ρ : Loc} {es : List E} (k : wEs call es ρ σ (fun vs σ => vs.length ≤ 100 ∧ Q (.tup vs) σ) X) : wE call (.tup es) ρ σ Q X := k
theorem e_new_disk1 {ρ : Loc} {cs : List (Addr × O)} (H : Has R σ cs) (hQ : ∀ σ' d fd sh lk, Has R σ' (d0Cells d fd sh lk 0 none ++ cs) → Q (.ref d) σ') : wE (wCall tab (m + 2)) (.call (.g "Disk") [.c (.int 8)]) ρ σ Q X :=
  new_disk (fun u_ => rfl) H hQ
theorem e_disk_done {ρ : Loc} (H : Has R σ []) (q : ∀ σ' d fd sh lk da, R da = none → Has (R.set da (.list [])) σ' (d0Cells d fd sh lk 0 none) → Q (.tup [.ref d, .ref da]) σ') : wE (wCall tab (m + 2)) (.tup [(.call (.g "Disk") [(.c (.int 8))]), (.list true [])]) ρ σ Q X := by
  refine e_tup (es_cons' (e_new_disk1 H fun σ' d fd sh lk H' => es_cons' ⟨Nat.le_of_ble_eq_true rfl, fun da hda => es_nil' ⟨Nat.le_of_ble_eq_true rfl, ?_⟩⟩))
  have H2 := H'.new hda (.list [])
  exact q _ d fd sh lk da (H2.off (da, .list []) (.head _)) (by rw [List.append_nil] at H2; exact H2.toR)
theorem Less.set {R R' : Store} (l : Less R R') (a : Addr) (o : O) : Less (R.set a o) (R'.set a o) := fun b x e => by
  by_cases h : b = a
  · rw [h, Store.self] at e ⊢; exact e
  · rw [Store.other _ _ h] at e ⊢; exact l b x e
theorem c_crashed {c : Int} (hX0 : ∃ σ, X σ) (H : Has R σ []) (ho : SrcO o) (hsa : R sa = some o) (hca : R ca = some (.list (cs.map Chg.v))) (hok : ∀ h ∈ cs, h.Ok) (hln : Linked first cs) (f64 : P64 first) (fl : first.length ≤ 6) (cl : cs.length ≤ 10) (hc : 2 < c ∧ c ≤ 2 + stAt cs cs.length)
    (hQ : ∀ σ' o' d' fb' fj' x z i h, cs[i]? = some h → SrcO o' → RecR h.old h.new x (some z) → x.length ≤ 9000 → z.length ≤ 9000 → DiskAt (R.set sa o') σ' d' fb' fj' ⟨⟨x, [], x⟩, some ⟨z, [], z⟩, 0, none⟩ → Q (.list [.ref d', .int (i : Nat)]) σ') :
    wCall tab (m + 7) .lCrashed [.ref sa, pgV first, .ref ca, .int c] σ Q X := by
  have lt : ∀ n k, Nat.ble n k = true → n ≤ k := fun n k h => Nat.le_of_ble_eq_true h
  refine call_of rfl ?_
  refine w_cons (s_asg' (e_disk_done H fun σ1 d fd sh lk da hda H1 => ⟨_, .inl rfl, ⟨rfl, by decide, tgt_ok 8 rfl rfl⟩, ?_⟩))
  have sd : ∀ l : O, (R.set da l) sa = some o := fun l => Less.of_new hda l _ _ hsa
  have cd : ∀ l : O, (R.set da l) ca = some (.list (cs.map Chg.v)) := fun l => Less.of_new hda l _ _ hca
  refine (c_begun H1 f64 (by exact Nat.le_trans (by assumption) (Nat.le_of_ble_eq_true rfl)) fun σ2 fb H2 => ⟨lt _ _ rfl, ?_⟩)
  refine foldg fun G0 fin0 => ?_
  obtain ⟨fd2, sh2, lk2, hd2, hset⟩ := H2.crash
  refine fin0 ?_
  refine ⟨_, .mk _ _ _ _ _ hd2 (lt _ _ rfl), ?_⟩
  have H3 := hset (some c)
  obtain ⟨σx, hσx⟩ := hX0
  have e0 : (2 + (stAt cs 0 : Int)) = 2 := rfl
  refine ⟨⟨[], σx, x_of hσx⟩, ?_⟩
  refine ⟨_, _, .cell _ _ (H3.r (cd _)), by rw [List.length_map]; exact Nat.le_trans (by assumption) (Nat.le_of_ble_eq_true rfl), ?_⟩
  refine loop_inv (fun (i : Nat) ρ σ' => (∃ x : Option V, ρ = [some (.ref sa), some (pgV first), some (.ref ca), some (.int c), some (.ref d), some (.ref da), some (.ref fb), x]) ∧ ∃ fj', (2 + stAt cs i : Int) < c ∧
    DiskAt (R.set da (.list ((cs.take i).map Chg.v))) σ' d fb fj' ⟨⟨(pgAt first cs i).flatten, [], (pgAt first cs i).flatten⟩, none, 2 + stAt cs i, some c⟩) (fun i ρ σ' hI => ?_) (fun i v ρ σ' K hv hI kn u_ u_ => ?_) (fun ρ σ' hI => ?_) ⟨⟨_, rfl⟩, fb, by rw [e0]; exact hc.1, by rw [e0]; exact H3⟩
  · refine foldg fun G0 fin0 => ?_
    obtain ⟨_, fj', _, H'⟩ := hI
    refine fin0 ?_
    exact H'.r (cd _)
  · refine foldg fun G0 fin0 => ?_
    obtain ⟨⟨x, rfl⟩, fj', hst, H4⟩ := hI
    rw [List.getElem?_map] at hv
    obtain ⟨h, hh, rfl⟩ := Option.map_eq_some_iff.mp hv
    refine fin0 ?_
    have ok := hok h (List.mem_of_getElem? hh)
    have hil : i < cs.length := (List.getElem?_eq_some_iff.mp hh).1
    have hold := hln.at hh
    have tl : ((cs.take i).map Chg.v).length = i := by rw [List.length_map, List.length_take]; exact Nat.min_eq_left (Nat.le_of_lt (by assumption))
    rw [← hold] at H4
    have hda4 := H4.r (Store.self ..)
    refine ⟨lt _ _ rfl, _, .lenC _ _ hda4 (by lia), _, .addI _ _, ?_⟩
    refine rwg tl ?_
    refine c_changed ok (by lia) H4 (fun k ek => by cases ek; exact hst) (fun σ5 fj5 D5 k ek ci H5 => ?_) fun σ5 fj5 hk5 H5 => ⟨trivial, ?_⟩
    · refine foldg fun G0 fin0 => ?_
      obtain ⟨bdb, jf, ejr, bdj, hrec⟩ := ci
      obtain ⟨_, _, _, hd5⟩ := H5.dsk
      refine fin0 ?_
      have hsa5 := H5.r (sd _)
      refine ⟨_, .fn _ _ _ _ _ hd5 rfl rfl, c_choices hsa5 ho fun ns o' ho' hns hnl => ?_⟩
      have H6 := H5.setR (sd _) o'
      refine c_survivor H6 ⟨fun q => (by rw [q] at hnl; cases hnl), by lia⟩ hns bdb (fun j e => by rw [ejr] at e; cases e; exact bdj) fun σ7 d' fb' fj' x y hsx hx9 hy H7 => ?_
      rcases hy with ⟨e, _⟩ | ⟨j2, z, e2, hsz, hz9, rfl⟩
      · rw [ejr] at e; cases e
      rw [ejr] at e2
      cases e2
      have nda : da ≠ sa := fun q => by rw [q, hsa] at hda; cases hda
      have hda7 := H7.r (show ((R.set da (.list ((cs.take i).map Chg.v))).set sa o') da = _ from (Store.other _ _ nda).trans (Store.self ..))
      refine ⟨_, .lenC _ _ hda7 (by lia), lt _ _ rfl, ?_⟩
      refine rwg tl ?_
      exact ret_of (hQ σ7 o' d' fb' fj' x z i h hh ho' (hrec x z hsx hsz) hx9 hz9 (H7.lessR ((Less.of_new hda _).set sa o')))
    · have hda5 := H5.r (Store.self ..)
      refine ⟨_, .append _ _ hda5, _, .append _ _ _ hda5 (by lia), trivial, kn _ _ ⟨⟨_, rfl⟩, fj5, ?_, ?_⟩⟩
      · rw [stAt_snoc hh]; have := hk5 c rfl; lia
      · have e1 : (cs.take (i + 1)).map Chg.v = (cs.take i).map Chg.v ++ [h.v] := by rw [List.take_add_one, hh, List.map_append]; rfl
        refine rwg (pgAt_snoc hh) ?_
        refine rwg (stAt_snoc hh) ?_
        refine rwg e1 ?_
        have := H5.setR (Store.self ..) (.list ((cs.take i).map Chg.v ++ [h.v]))
        rw [Store.set_set, show (2 + (stAt cs i : Int)) + (nSteps h : Int) = 2 + ((stAt cs i + nSteps h : Nat) : Int) by exact Int.add_assoc _ _ _] at this
        exact this
  · refine foldg fun G0 fin0 => ?_
    obtain ⟨⟨x, rfl⟩, fj', hst, H4⟩ := hI
    refine fin0 ?_
    rw [List.length_map] at hst
    exact absurd hc.2 (by exact Int.not_le.mpr (by assumption))
end
end Mine
end
section
namespace Mine
noncomputable def laterOf (ps : List Bs) : List Bs := ps.dropLast ++ [(List.replicate 64 [122]).flatten, (List.replicate 64 [121]).flatten]
noncomputable def lastChg (ps : List Bs) : Chg := ⟨ps, laterOf ps, [ps.length], [ps.length + 1]⟩
theorem clipAt_last (n : Nat) : clipAt n (-1) = n - 1 := by
  cases n with
  | zero => rfl
  | succ n =>
    unfold clipAt
    rw [if_pos (by decide), Int.natCast_succ, Int.add_comm, Int.add_neg_cancel_right, Int.min_eq_left (Int.le_add_of_nonneg_right (by decide)), Int.max_eq_right (Int.natCast_nonneg n)]
    rfl
theorem sl_init {α : Type} (b : List α) : sl b none (some (-1)) = b.dropLast := by
  unfold sl
  simp only [Option.elim_some, Option.elim_none]
  rw [clipAt_last, List.drop_zero, Nat.sub_zero, List.dropLast_eq_take]
theorem laterOf_len {ps : List Bs} (h : 1 ≤ ps.length) : (laterOf ps).length = ps.length + 1 := by
  unfold laterOf; rw [List.length_append, List.length_dropLast]; show ps.length - 1 + 2 = _; lia
theorem laterOf_64 {ps : List Bs} (h : P64 ps) : P64 (laterOf ps) := fun b hb => by
  rcases List.mem_append.mp hb with hb | hb
  · exact h b ((List.dropLast_sublist ps).subset hb)
  · rcases List.mem_cons.mp hb with rfl | hb
    · exact rep_len 64 122
    · rw [List.mem_singleton.mp hb]; exact rep_len 64 121
theorem lastChg_ok {ps : List Bs} (h : P64 ps) (hl : 1 ≤ ps.length ∧ ps.length ≤ 6) : (lastChg ps).Ok := by
  have ll := laterOf_len hl.1
  refine ⟨h, laterOf_64 h, hl, by show 1 ≤ (laterOf ps).length ∧ (laterOf ps).length ≤ ps.length + 1; lia, fun i hne => ?_, fun p hp => ?_, Nat.le_of_ble_eq_true rfl⟩
  · have hne : ps[i]? ≠ (laterOf ps)[i]? := hne
    show i + 1 ∈ [ps.length, ps.length + 1]
    by_cases h1 : i + 1 < ps.length
    · exact absurd (by unfold laterOf; rw [List.getElem?_append_left (by rw [List.length_dropLast]; lia), List.getElem?_dropLast, if_pos (by lia)]) hne
    · by_cases h2 : i + 1 = ps.length
      · rw [h2]; exact .head _
      · by_cases h3 : i = ps.length
        · rw [h3]; exact .tail _ (.head _)
        · exact absurd (by rw [List.getElem?_eq_none (by lia), List.getElem?_eq_none (by lia)]) hne
  · have hp : p ∈ [ps.length, ps.length + 1] := hp
    rcases List.mem_cons.mp hp with rfl | hp
    · exact ⟨(And.left (by assumption)), Nat.le_trans (And.right (by assumption)) (Nat.le_of_ble_eq_true rfl)⟩
    · rw [List.mem_singleton.mp hp]; lia
section
variable {R σ : Store} {d fb fj sa ca da a : Addr} {Q : V → Store → Prop} {X : Store → Prop} {m : Nat} {st : Int} {cr : Option Int} {D : AD} {o : O} {first : List Bs} {cs : List Chg}
theorem DiskAt.has (H : DiskAt R σ d fb fj D) : Has R σ [] := by
  refine foldg fun G0 fin0 => ?_
  obtain ⟨_, _, _, _, _, _, _, H⟩ := H
  refine fin0 ?_
  exact ⟨.nil, (List.forall_mem_nil _), (List.forall_mem_nil _), H.rest⟩
noncomputable def rightB : List S := B.lCrashRight.body.drop 4
theorem c_right {h : Chg} {i : Nat} {x : Bs} {y : Option Bs} {w3 w4 : Option V} (ok : h.Ok ∧ h.old.length ≤ 5) (hcs : cs[i]? = some h) (hl : cs.length ≤ 10) (hca : R ca = some (.list (cs.map Chg.v))) (H : DiskAt R σ d fb fj ⟨⟨x, [], x⟩, jF y, st, none⟩) (hx : x.length ≤ 9000) (hy : ∀ z, y = some z → z.length ≤ 9000) (hr : RecR h.old h.new x y)
    (hQ : ∀ σ', Has R σ' [] → Q (.bool true) σ') {w0 w1 : Option V} :
    wSs (wCall tab (m + 7)) rightB [w0, w1, some (.ref ca), w3, w4, some (.ref d), some (.int (i : Nat)), none, none, none, none, none, none] σ (fun fl u_ σ => wRet fl σ Q) fun u_ σ => wLess σ X := by
  have lt : ∀ n k, Nat.ble n k = true → n ≤ k := fun n k h => Nat.le_of_ble_eq_true h
  obtain ⟨ok, ol5⟩ := ok
  have ol := ok.olen
  have nl := ok.nlen
  have pl : ∀ ps : List Bs, (ps.map V.bytes).length = ps.length := fun ps => List.length_map ..
  have fo := fl_len ok.old64
  have fn := fl_len ok.new64
  refine (c_recovered (old := h.old) (new := h.new) ok.old64 (by exact Nat.le_trans (by assumption) (Nat.le_of_ble_eq_true rfl)) H hx hy hr (fun σ' D' k ek => nomatch ek) fun σ1 r s1 hrr hr9 u_ H1 => ⟨lt _ _ rfl, ?_⟩)
  refine ⟨_, .cell _ _ _ h.v (H1.r hca) (by rw [List.length_map]; exact Nat.le_trans (by assumption) (Nat.le_of_ble_eq_true rfl)) (seq_at (by rw [List.getElem?_map, hcs]; rfl)), _, .inl rfl, ⟨rfl, by decide, tgt_ok 13 rfl rfl⟩, ?_⟩
  have fin : ∀ (pages : List Bs), P64 pages → (1 ≤ pages.length ∧ pages.length ≤ 6) → r = pages.flatten → ∀ w7 w8 w9 w10 : Option V, wSs (wCall tab (m + 7)) (rightB.drop 4) [w0, w1, some (.ref ca), w3, w4, some (.ref d), some (.int (i : Nat)), w7, w8, w9, w10, some (pgV pages), none] σ1 (fun fl u_ σ => wRet fl σ Q) fun u_ σ => wLess σ X := fun pages p64 pgl er w7 w8 w9 w10 => by
    have lok := lastChg_ok p64 pgl
    have ll := laterOf_len pgl.1
    have l64 := laterOf_64 p64
    have fl := fl_len l64
    refine ⟨_, .list _ (by rw [pl]; exact Nat.le_trans (And.right (by assumption)) (Nat.le_of_ble_eq_true rfl)), _, .mulB _ _ ⟨by decide, by decide, lt _ _ rfl, (List.cons_ne_nil _ _)⟩, _, .mulB _ _ ⟨by decide, by decide, lt _ _ rfl, (List.cons_ne_nil _ _)⟩, lt _ _ rfl, ?_⟩
    refine ⟨_, .addL _ _ (by rw [sl_init, List.length_dropLast, pl]; show _ + 2 ≤ _; lia), lt _ _ rfl, ?_⟩
    have e12 : sl (pages.map V.bytes) none (some (-1)) ++ [V.bytes (List.replicate 64 [122]).flatten, V.bytes (List.replicate 64 [121]).flatten] = (laterOf pages).map .bytes := by
      rw [sl_init]; unfold laterOf; rw [List.map_append, List.map_dropLast]; rfl
    have H9 := H1
    obtain ⟨_, _, _, hd1⟩ := H1.dsk
    rw [er] at H9
    refine ⟨_, .lenL _ (by rw [pl]; exact Nat.le_trans (And.right (by assumption)) (Nat.le_of_ble_eq_true rfl)), lt _ _ rfl, _, .lenL _ (by rw [pl]; exact Nat.le_trans (And.right (by assumption)) (Nat.le_of_ble_eq_true rfl)), _, .addI _ _, lt _ _ rfl, lt _ _ rfl, lt _ _ rfl, ?_⟩
    rw [pl]
    refine ⟨_, .fn _ _ _ _ _ hd1 rfl rfl, d_openB H1 ⟨lt _ _ rfl, ?_⟩⟩
    have ev : V.tup [pgV pages, .list (sl (pages.map V.bytes) none (some (-1)) ++ [V.bytes (List.replicate 64 [122]).flatten, V.bytes (List.replicate 64 [121]).flatten]), .list [.list [.int (pages.length : Int)], .list [.int ((pages.length : Int) + 1)]]] = (lastChg pages).v := by
      rw [e12]; rfl
    have step : ∀ {K : V → Store → Prop} {X' : Store → Prop}, (∀ σ2 fj2 s2, DiskAt R σ2 d fb fj2 ⟨⟨(laterOf pages).flatten, [], (laterOf pages).flatten⟩, none, s2, none⟩ → K .none σ2) → wCall tab (m + 7) .lChanged [.ref d, .ref fb, (lastChg pages).v, .int 99] σ1 K X' := fun hK =>
      c_changed lok (by decide) H9 no_some (fun σ' fj' D' k ek => nomatch ek) fun σ2 fj2 u_ H2 => hK σ2 fj2 _ H2
    rw [← ev] at step
    refine step fun σ2 fj2 s2 H2 => ⟨trivial, ?_⟩
    have l9 : (laterOf pages).flatten.length ≤ 9000 := by lia
    have fin2 : ∀ ρ : Loc, ρ[5]? = some (some (.ref d)) → ρ[12]? = some (some (pgV (laterOf pages))) → wSs (wCall tab (m + 7)) (rightB.drop 7) ρ σ2 (fun fl u_ σ => wRet fl σ Q) fun u_ σ => wLess σ X := fun ρ h5 h12 => by
      refine locP_i h5 (c_recovered (old := laterOf pages) (new := laterOf pages) (y := none) l64 (by lia) H2 l9 no_some (.inl rfl) (fun σ' D' k ek => nomatch ek) fun σ3 r3 s3 hr3 u_ u_ H3 => ⟨_, .join, locP_i h12 ⟨_, .join _ (by lia), _, .eqB _ _, ?_⟩⟩)
      rw [decide_eq_true (hr3.elim id id)]
      exact ret_of (hQ σ3 H3.has)
    exact fin2 _ rfl (congrArg (fun v => some (some (V.list v))) e12)
  have jn : ∀ ps : List Bs, P64 ps → ps.length ≤ 7 → ps.length ≤ 1000 ∧ ps.flatten.length ≤ 1000000 := fun ps h1 h2 => by have := fl_len h1; lia
  refine ⟨_, .join, _, .join _ (jn _ ok.old64 (by exact Nat.le_trans (by assumption) (Nat.le_of_ble_eq_true rfl))), _, .neB _ _, ?_⟩
  by_cases q : r = h.old.flatten
  · rw [decide_eq_false fun h => h q]
    refine ⟨_, .join, _, .join _ (jn _ ok.old64 (by exact Nat.le_trans (by assumption) (Nat.le_of_ble_eq_true rfl))), _, .eqB _ _, ?_⟩
    refine rwg (decide_eq_true q) ?_
    exact ⟨lt _ _ rfl, fin h.old ok.old64 ol q _ _ _ _⟩
  · refine rwg (decide_eq_true q) ?_
    have q2 := hrr.resolve_left q
    refine ⟨_, .join, _, .join _ (jn _ ok.new64 (by lia)), _, .neB _ _, ?_⟩
    refine rwg (decide_eq_false fun h => h q2) ?_
    refine ⟨_, .join, _, .join _ (jn _ ok.old64 (by exact Nat.le_trans (by assumption) (Nat.le_of_ble_eq_true rfl))), _, .eqB _ _, ?_⟩
    refine rwg (decide_eq_false q) ?_
    exact ⟨lt _ _ rfl, fin h.new ok.new64 (by lia) q2 _ _ _ _⟩
end
end Mine
end
section
namespace Mine
section
variable {R σ : Store} {d fb fj sa ca da a : Addr} {Q : V → Store → Prop} {X : Store → Prop} {m : Nat} {st : Int} {cr : Option Int} {D : AD} {o : O} {first : List Bs} {cs : List Chg}
theorem c_crash_right {c : Int} (hX0 : ∃ σ, X σ) (H : Has R σ []) (ho : SrcO o) (hsa : R sa = some o) (hca : R ca = some (.list (cs.map Chg.v))) (hne : ca ≠ sa) (hok : ∀ h ∈ cs, h.Ok ∧ h.old.length ≤ 5) (hln : Linked first cs) (f64 : P64 first) (fl : first.length ≤ 6) (cl : cs.length ≤ 10) (hc : 2 < c ∧ c ≤ 2 + stAt cs cs.length)
    (hQ : ∀ σ' o', SrcO o' → Has (R.set sa o') σ' [] → Q (.bool true) σ') : wCall tab (m + 8) .lCrashRight [.ref sa, pgV first, .ref ca, .int c] σ Q X := by
  have lt : ∀ n k, Nat.ble n k = true → n ≤ k := fun n k h => Nat.le_of_ble_eq_true h
  obtain ⟨σx, hσx⟩ := hX0
  refine call_of rfl (c_crashed ⟨σx, x_of hσx⟩ H ho hsa hca (fun h hh => (hok h hh).1) hln f64 fl cl hc fun σ1 o1 d fb fj x z i h hcs ho1 hr hx hz H1 => ⟨lt _ _ rfl, ?_⟩)
  have ok := hok h (List.mem_of_getElem? hcs)
  have ol := ok.1.olen
  refine ⟨_, .is _, _, .inr rfl, ⟨rfl, by decide, tgt_ok 13 rfl rfl⟩, c_take (H1.r (Store.self ..)) ho1 (by decide) fun v o2 ho2 hv => ⟨_, .eqI _ _, ?_⟩⟩
  have H2 := H1.setR (Store.self ..) o2
  rw [Store.set_set] at H2
  have cs' : ∀ o', (R.set sa o') ca = some (.list (cs.map Chg.v)) := fun o' => (Store.other _ _ hne).trans hca
  by_cases q : v = 0
  · refine rwg (decide_eq_true q) ?_
    refine foldg fun G0 fin0 => ?_
    obtain ⟨fd2, sh2, lk2, hd2, _⟩ := H2.crash
    refine fin0 ?_
    refine ⟨_, .mk _ _ _ _ _ hd2 rfl rfl, _, .addI _ _, c_take (H2.r (Store.self ..)) ho2 (by decide) fun v' o3 ho3 hv' => ⟨_, .addI _ _, ?_⟩⟩
    have H3 := H2.setR (Store.self ..) o3
    rw [Store.set_set] at H3
    refine foldg fun G0 fin0 => ?_
    obtain ⟨fd3, sh3, lk3, hd3, hset⟩ := H3.crash
    refine fin0 ?_
    refine ⟨_, .mk _ _ _ _ _ hd3 (lt _ _ rfl), ⟨[], σx, x_of hσx⟩, ?_⟩
    have H4 := hset (some (0 + 1 + v'))
    refine (c_recovered (old := h.old) (new := h.new) (y := some z) ok.1.old64 (by exact Nat.le_trans (And.right (by assumption)) (Nat.le_of_ble_eq_true rfl)) H4 hx (fun z' e => by cases e; exact hz) hr (fun σ5 D5 k ek ci H5 => ?_) fun σ5 r s5 hrr hr9 u_ H5 => ⟨trivial, ?_⟩)
    · refine foldg fun G0 fin0 => ?_
      obtain ⟨bdb, jf, ejr, bdj, hrec⟩ := ci
      obtain ⟨_, _, _, hd5⟩ := H5.dsk
      refine fin0 ?_
      refine ⟨_, .fn _ _ _ _ _ hd5 rfl rfl, c_choices (H5.r (Store.self ..)) ho3 fun ns o' ho' hns hnl => ?_⟩
      have H6 := H5.setR (Store.self ..) o'
      rw [Store.set_set] at H6
      refine c_survivor H6 ⟨fun q => (by rw [q] at hnl; cases hnl), by lia⟩ hns bdb (fun j e => by rw [ejr] at e; cases e; exact bdj) fun σ7 d' fb' fj' x' y hsx hx9 hy H7 => ⟨lt _ _ rfl, ?_⟩
      rcases hy with ⟨e, _⟩ | ⟨j2, z', e2, hsz, hz9, rfl⟩
      · rw [ejr] at e; cases e
      rw [ejr] at e2
      cases e2
      exact c_right (y := some z') ok hcs cl (cs' o') H7 hx9 (fun z' e => by cases e; exact hz9) (hrec x' z' hsx hsz) fun σ8 H8 => hQ σ8 o' ho' H8
    · refine foldg fun G0 fin0 => ?_
      obtain ⟨fd5, sh5, lk5, hd5, hset5⟩ := H5.crash
      refine fin0 ?_
      exact ⟨_, .mk _ _ _ _ _ hd5 (lt _ _ rfl), c_right (y := none) ok hcs cl (cs' o3) (hset5 none) hr9 no_some hrr fun σ8 H8 => hQ σ8 o3 ho3 H8⟩
  · refine rwg (decide_eq_false q) ?_
    exact c_right (y := some z) ok hcs cl (cs' o2) H2 hx (fun z' e => by cases e; exact hz) hr fun σ8 H8 => hQ σ8 o2 ho2 H8
end
end Mine
end
section
namespace Mine
theorem enumL_at {L : List V} : ∀ {k i : Nat} {v : V}, (enumL k L)[i]? = some v → ∃ w, L[i]? = some w ∧ v = .tup [.int ((k + i : Nat) : Int), w] := by
  induction L with
  | nil => exact nofun
  | cons w L ih =>
    intro k i v h
    cases i with
    | zero => cases h; exact ⟨w, rfl, rfl⟩
    | succ i => exact (ih (k := k + 1) (i := i) h).imp fun u h => ⟨h.1, by rw [h.2, Nat.add_assoc, Nat.add_comm 1]⟩
theorem enumL_size (L : List V) : ∀ k : Nat, (enumL k L).length = L.length := by
  induction L with
  | nil => exact fun u_ => rfl
  | cons x L ih => exact fun k => congrArg (· + 1) (ih (k + 1))
theorem seq_last {L : List V} {v : V} (h : L.getLast? = some v) : (seqIndex? (-1) L.length).bind (L[·]?) = some v := by
  obtain ⟨n, e⟩ : ∃ n, L.length = n + 1 := by
    cases L with
    | nil => cases h
    | cons x L => exact ⟨_, rfl⟩
  rw [List.getLast?_eq_getElem?, e] at h
  have e1 : (-1 : Int) + ((n + 1 : Nat) : Int) = (n : Int) := (Int.add_comm _ _).trans (Int.add_neg_cancel_right n 1)
  unfold seqIndex?
  rw [if_pos (show (-1 : Int) < 0 by decide), e]
  dsimp only
  rw [e1, if_pos (by rw [decide_eq_true (Int.natCast_nonneg n), decide_eq_true (Int.ofNat_lt.mpr (Nat.lt_succ_self n))]; rfl)]
  exact h
theorem nSteps_le {h : Chg} (ok : h.Ok) : 1 ≤ nSteps h ∧ nSteps h ≤ 60 := by
  have few := ok.few
  rw [List.length_append] at few
  have a1 := nRecs_len h.old h.l1
  have a2 := nRecs_len h.old h.l2
  have b1 : nNew h.new h.l1 ≤ h.l1.length := List.length_filter_le ..
  have b2 : nNew h.new h.l2 ≤ h.l2.length := List.length_filter_le ..
  have s1 : ∀ c n, nSync c n ≤ 3 := fun c n => by unfold nSync; split <;> decide
  have c1 := s1 none ([] ++ nRecs h.old h.l1).length
  have c2 := s1 (some ([] ++ nRecs h.old h.l1).length) ([] ++ nRecs h.old h.l1 ++ nRecs h.old h.l2).length
  unfold nSteps lotSteps
  constructor
  · exact Nat.le_of_ble_eq_true rfl
  · split <;> lia
theorem stAt_le {cs : List Chg} : (∀ h ∈ cs, h.Ok) → cs.length ≤ (cs.map nSteps).sum ∧ (cs.map nSteps).sum ≤ cs.length * 60 := by
  induction cs with
  | nil => exact fun u_ => ⟨Nat.le_refl _, Nat.le_refl _⟩
  | cons c cs ih =>
    intro h
    have h1 := nSteps_le (h c (.head _))
    have h2 := ih fun x hx => h x (.tail _ hx)
    refine rwg List.map_cons ?_
    refine rwg List.sum_cons ?_
    refine rwg List.length_cons ?_
    clear ih h
    lia
section
variable {σ : Store} {Q : V → Store → Prop} {X : Store → Prop} {m : Nat}
open PySem.Builtin.Int in
theorem c_law {ns : List Int} (hb : ∀ n ∈ ns, intBits n ≤ 1048576) (hl : ns.length ≤ 63) (hX0 : ∃ σ, X σ) (hQ : ∀ σ', Q (.bool true) σ') : wCall tab (m + 9) .law [.list (ns.map .int)] σ Q X := by
  have lt : ∀ n k, Nat.ble n k = true → n ≤ k := fun n k h => Nat.le_of_ble_eq_true h
  obtain ⟨σx, hσx⟩ := hX0
  refine call_of rfl (c_pool hb hl fun sa o hsa ho => ⟨lt _ _ rfl, ?_⟩)
  have H1 := (Has.nil σ).new hsa o
  refine (c_changes H1 ho fun σ2 ca o2 first cs H2 ho2 hok hln f64 fl cl => ⟨_, .inr rfl, ⟨rfl, by decide, tgt_ok 10 rfl rfl⟩, ?_⟩)
  have hsa2 := H2.get 0 rfl
  have hca2 := H2.get 1 rfl
  have hne : ca ≠ sa := fun q => by
    have := H2.nd
    rw [q] at this
    exact (List.nodup_cons.mp this).1 (.head _)
  have cm : (cs.map Chg.v).length = cs.length := List.length_map ..
  refine w_cons (s_asg' (e_new_disk1 (Has.nil σ2) fun σ3 d fd sh lk H3 => ⟨lt _ _ rfl, ?_⟩))
  rw [List.append_nil] at H3
  refine (c_begun H3 f64 (by exact Nat.le_trans (And.right (by assumption)) (Nat.le_of_ble_eq_true rfl)) fun σ4 fb H4 => ⟨lt _ _ rfl, ?_⟩)
  refine foldg fun G0 fin0 => ?_
  obtain ⟨_, _, _, hd4⟩ := H4.dsk
  refine fin0 ?_
  refine ⟨_, .mk _ _ _ _ _ hd4 rfl rfl, lt _ _ rfl, ?_⟩
  have e0 : (2 + (stAt cs 0 : Int)) = 2 := rfl
  refine ⟨_, _, .cell _ _ (H4.r hca2), by rw [cm]; exact Nat.le_trans (And.right (by assumption)) (Nat.le_of_ble_eq_true rfl), ?_⟩
  refine loop_inv (fun (i : Nat) ρ σ' => (∃ (a b c : Option V), ρ = [some (.list (ns.map .int)), some (.ref sa), some (pgV first), some (.ref ca), some (.ref d), some (.ref fb), some (.int 2), a, b, c]) ∧ ∃ fj', DiskAt σ2 σ' d fb fj' ⟨⟨(pgAt first cs i).flatten, [], (pgAt first cs i).flatten⟩, none, 2 + stAt cs i, none⟩)
    (fun i ρ σ' hI => ?_) (fun i v ρ σ' K hv hI kn u_ u_ => ?_) (fun ρ σ' hI => ?_) ⟨⟨_, _, _, rfl⟩, fb, by rw [e0]; exact H4⟩
  · refine foldg fun G0 fin0 => ?_
    obtain ⟨_, fj', H'⟩ := hI
    refine fin0 ?_
    exact H'.r hca2
  · refine foldg fun G0 fin0 => ?_
    obtain ⟨⟨a, b, c, rfl⟩, fj', H5⟩ := hI
    obtain ⟨w, hw, rfl⟩ := enumL_at hv
    rw [List.getElem?_map] at hw
    obtain ⟨h, hh, rfl⟩ := Option.map_eq_some_iff.mp hw
    refine fin0 ?_
    have ok := (hok h (List.mem_of_getElem? hh)).1
    have hil : i < cs.length := (List.getElem?_eq_some_iff.mp hh).1
    rw [← hln.at hh] at H5
    refine ⟨_, .inl rfl, ⟨rfl, by decide, tgt_ok 10 rfl rfl⟩, _, .addI _ _, ?_⟩
    refine c_changed ok (by lia) H5 no_some (fun σ5 fj5 D5 => no_some) fun σ5 fj5 u_ H6 => ⟨trivial, kn _ _ ⟨⟨_, _, _, rfl⟩, fj5, ?_⟩⟩
    refine rwg (pgAt_snoc hh) ?_
    refine rwg (stAt_snoc hh) ?_
    refine rwg (show 2 + ((stAt cs i + nSteps h : Nat) : Int) = 2 + (stAt cs i : Int) + nSteps h by lia) ?_
    exact H6
  refine foldg fun G0 fin0 => ?_
  obtain ⟨⟨a, b, c, rfl⟩, fj', H5⟩ := hI
  refine fin0 ?_
  rw [enumL_size, cm] at H5
  obtain ⟨lc, hlc⟩ : ∃ lc, cs.getLast? = some lc := by
    cases q : cs.getLast? with
    | none => rw [List.getLast?_eq_none_iff.mp q] at cl; exact absurd cl.1 (by decide)
    | some x => exact ⟨x, rfl⟩
  have hlok := (hok lc (List.mem_of_getLast? hlc))
  have epg : pgAt first cs cs.length = lc.new := by unfold pgAt; rw [List.take_length, hlc]; rfl
  have nl := hlok.1.nlen
  have fn := fl_len hlok.1.new64
  rw [epg] at H5
  refine (c_recovered (old := lc.new) (new := lc.new) (y := none) hlok.1.new64 (by lia) H5 (by lia) no_some (.inl rfl) (fun u_ u_ => no_some) fun σ6 r s6 hr u_ hs6 H6 => ?_)
  have es6 := hs6 rfl
  subst es6
  refine ⟨_, .join, _, .cell _ _ _ lc.v (H6.r hca2) (by rw [cm]; exact Nat.le_trans (And.right (by assumption)) (Nat.le_of_ble_eq_true rfl)) (seq_last (by rw [List.getLast?_map, hlc]; rfl)), _, .tup _ _ _ (lt _ _ rfl) rfl, _, .join lc.new (by lia), _, .neB _ _, ?_⟩
  refine rwg (decide_eq_false fun h => h (hr.elim id id)) ?_
  refine foldg fun G0 fin0 => ?_
  obtain ⟨_, _, _, hd6⟩ := H6.dsk
  refine fin0 ?_
  refine ⟨_, .one 2 (by decide), ?_⟩
  have hsa6 := H6.r hsa2
  have nd : ∀ o', SrcO o' → (σ6.set sa o') d = σ6 d := fun o' ho' => Store.other _ _ fun q => by
    refine foldg fun G0 fin0 => ?_
    obtain ⟨a, b, e, _⟩ := ho2
    refine fin0 ?_
    rw [q, hsa6, e] at hd6
    cases hd6
  refine loop_inv (fun (i : Nat) ρ σ' => (∃ (a b c : Option V), ρ = [some (.list (ns.map .int)), some (.ref sa), some (pgV first), some (.ref ca), some (.ref d), some (.ref fb), some (.int 2), a, b, c]) ∧ ∃ o', SrcO o' ∧ Has (σ6.set sa o') σ' [])
    (fun u_ u_ u_ u_ => trivial) (fun i v ρ σ' K hv hI kn u_ u_ => ?_) (fun ρ σ' hI => ?_) ⟨⟨_, _, _, rfl⟩, o2, ho2, by rw [Store.same hsa6]; exact Has.nil σ6⟩
  · refine foldg fun G0 fin0 => ?_
    obtain ⟨⟨a, b, c, rfl⟩, o', ho', H7⟩ := hI
    refine fin0 ?_
    have hd7 := H7.r ((nd o' ho').trans hd6)
    have tot : 1 ≤ stAt cs cs.length ∧ stAt cs cs.length ≤ 90000 := by
      have := stAt_le fun x hx => (hok x hx).1
      unfold stAt
      refine rwg List.take_length ?_
      lia
    refine ⟨lt _ _ rfl, _, .addI _ _, _, .mk _ _ _ _ _ hd7 rfl rfl, _, .subI _ _, ?_⟩
    refine rwg (show (2 + (stAt cs cs.length : Int)) - 2 = stAt cs cs.length by lia) ?_
    refine c_take (H7.r (Store.self ..)) ho' (by lia) fun v o3 ho3 hv3 => ⟨_, .addI _ _, ?_⟩
    have H8 := H7.setR (Store.self ..) o3
    rw [Store.set_set] at H8
    refine c_crash_right ⟨σx, x_of hσx⟩ H8 ho3 (Store.self ..) ((Store.other _ _ hne).trans (H6.r hca2)) hne hok hln f64 (by exact Nat.le_trans (And.right (by assumption)) (Nat.le_of_ble_eq_true rfl)) (by exact Nat.le_trans (And.right (by assumption)) (Nat.le_of_ble_eq_true rfl)) (by lia) fun σ9 o9 ho9 H9 => (?_)
    rw [Store.set_set] at H9
    exact kn _ _ ⟨⟨_, _, _, rfl⟩, o9, ho9, H9⟩
  · exact ret_of (hQ σ')
end
end Mine
end
section
open PySem.Calls PySem.Builtin.Int
namespace Mine
noncomputable def TopIs (h : Heap) : Prop := ∃ K : Frag, K.In h ∧ allB K = true
theorem ns_hide {h : Heap} {a b : Addr} {m : Str → Option Value} (n : h.Ns b m) {o : Obj} {ws : Array Value} {k : Nat} (ho : h.get? a = some o) (hd : o.data = .seq ws k) : (hideAll h [a]).Ns b m := by
  refine foldg fun G0 fin0 => ?_
  obtain ⟨p, es, ep, hp, d, r⟩ := n
  refine fin0 ?_
  refine ⟨p, es, ep, hideAll_get _ hp fun q => ?_, d, r⟩
  obtain rfl := List.mem_singleton.mp q
  rw [ho] at hp; cases hp; rw [hd] at d; cases d
theorem k_hide {K : Frag} {h : Heap} (n : K.In h) (hl : (K.all fun p => p.2.cls != .type "list") = true) {a : Addr} {o : Obj} (ho : h.get? a = some o) (hc : o.cls = .type "list") : K.In (hideAll h [a]) := by
  intro b p e
  refine hideAll_get _ (n _ _ e) fun q => ?_
  obtain rfl := List.mem_singleton.mp q
  have hp := n _ _ e
  rw [ho] at hp; cases hp
  have : ∀ {K : Frag}, K.lookup b = some o → (K.all fun p => p.2.cls != .type "list") = true → False := fun {K} => by
    induction K with
    | nil => intro e; cases e
    | cons x r ih =>
      intro e h
      rw [List.all_cons, Bool.and_eq_true] at h
      rw [List.lookup_cons] at e
      split at e
      · cases e; rw [hc] at h; exact absurd h.1 (by decide)
      · exact ih e h.2
  exact this e hl
theorem reads_ints {C : Cx} {z : Fz} {R : WRecords} {cl : Str → Option Addr} {h : Heap} {ns : List Int} : ∀ {vs : List Value} {as : List Addr}, ReadsAllW R cl h vs (ns.map .int) as → VRs C z (ns.map .int) vs := by
  induction ns with
  | nil => intro _ _ r; cases r; exact VRs.nil
  | cons n ns ih =>
    intro _ _ r
    obtain _ | ⟨r1, r2⟩ := r
    obtain ⟨t, rfl, _⟩ := readsW_int_inv r1
    exact VRs.cons (by simp only [VR]; exact ⟨t, rfl⟩) (ih r2)
theorem law_runs {prog : Program} {w : World} {s₁ : Shared} {mg mb : Str → Option Value} (T : TopIs s₁.heap) (lim : s₁.heap.NoLimit) (g : s₁.heap.Ns mainGlobals mg) (b : s₁.heap.Ns builtinsNs mb)
    (hb : ∀ x : Str, x ≠ "__name__" → mb x = bootBuiltins x) {a : Addr} {o : Obj} {ws : Array Value} {k : Nat} {ns : List Int} {R : WRecords} {cl : Str → Option Addr} {as : List Addr}
    (ho : s₁.heap.get? a = some o) (hc : o.cls = .type "list") (hd : o.data = .seq ws k) (hr : ReadsAllW R cl s₁.heap ws.toList (ns.map .int) as) (hbits : ∀ n ∈ ns, intBits n ≤ 1048576) (hl : ns.length ≤ 63)
    {Q : Value → Shared → Prop} {E : Value → Shared → Prop} (hQ : ∀ s', (∀ b o, s₁.heap.get? b = some o → s'.heap.get? b = some o) → s'.os = s₁.os → s'.gens = s₁.gens → Q (.bool true) s') :
    mg (Str.ofString "law") = some (.ref 587) ∧ wpC (model prog w) callerA (PySem.call (.ref 587) [.ref a]) Q E s₁ := by
  obtain ⟨K, hin, hK⟩ := T
  obtain ⟨hlaw, nl⟩ := law_of hK
  rw [← mg_of hin g hK] at hlaw
  have lim' : (hideAll s₁.heap [a]).NoLimit := by obtain ⟨mc, h1, h2⟩ := lim; exact ⟨mc, ns_hide h1 ho hd, h2⟩
  have F : Facts (cxOf prog w K) (hideAll s₁.heap [a]) mg mb := facts_of (k_hide hin nl ho hc) lim' (ns_hide g ho hd) (ns_hide b ho hd) hb hK
  refine ⟨hlaw, ?_⟩
  have ok := call_ok (C := cxOf prog w K) (initA := 35) (defs_of hK) (fun u_ u_ u_ F => exc_of hK F.inn F.g) 9
  have base := ok (hideAll s₁.heap [a]) mg mb F callerA [] (Fz.set (fun u_ => none) a o) (fun u_ => none) ⟨rfl, (List.forall_mem_nil _)⟩ ⟨by decide, by decide⟩ (.inl rfl) .law [.list (ns.map .int)] [.ref a]
    (VRs.cons (by simp only [VR]; exact ⟨a, o, ws, k, rfl, Fz.set_self _ _ _, hc, hd, reads_ints hr⟩) VRs.nil)
  have S : Sim (cxOf prog w K) (hideAll s₁.heap [a]) (Fz.set (fun u_ => none) a o) (fun u_ => none) (fun u_ => none) s₁.heap :=
    { bas := fun u_ u_ e => of_hideAll _ e, fz := fun x p e => by
        by_cases q : x = a
        · subst q; rw [Fz.set_self] at e; cases e; exact ⟨ho, hideAll_none _ (.head _), rfl⟩
        · rw [Fz.set_ne _ _ q] at e; cases e
      cell := fun u_ u_ e => (nomatch e), off := fun u_ u_ e => (nomatch e), offD := fun u_ u_ u_ u_ e => (nomatch e), one := fun u_ u_ u_ u_ u_ u_ u_ e => (nomatch e), frs := fun u_ u_ e => (nomatch e) }
  obtain ⟨o1, h1⟩ := Option.isSome_iff_exists.mp F.sys
  refine wpC_call (base _ (fun u_ => none) s₁.heap s₁.toks s₁.gens s₁.drawn s₁.os (fun v u_ => v = .bool true) (fun σ => (σ sysModules).isSome) (Zle.refl _)
    (c_law hbits hl ⟨fun u_ => some (.ba []), rfl⟩ fun u_ => rfl) S (.inl rfl) _ (fun z' σ' b v h' k' hz S' hv hb => ?_) fun z' σ' e h' k' hz Fl hx => ?_)
  · subst hb
    simp only [VR] at hv
    subst hv
    refine hQ ⟨h', _, _, k', _⟩ (fun x p e => ?_) rfl rfl
    by_cases q : x = a
    · subst q
      rw [ho] at e; cases e
      exact (S'.fz _ _ (hz _ _ (Fz.set_self _ _ _))).1
    · exact S'.bas _ _ (hideAll_get _ e fun m => q (List.mem_singleton.mp m))
  · obtain ⟨_, B, _, S0, _⟩ := Fl
    obtain ⟨c, hc⟩ := Option.isSome_iff_exists.mp hx
    have := (S0.off _ _ hc).2.2
    rw [h1] at this; cases this
end Mine
end
section
open PySem.Calls
namespace Mine
theorem left_gen {p q : Program} {loose : List Str} {Xt : Shared → Bool} {Yf : Shared → Bool} {N : Nat} {g0 : Bool} {H₀ : Params → Heap} {gs₀ : Array GenState} {d₀ : Drawn} {k₀ : Nat} {m₀ : Nat} {ann : Option Value}
    (open_ : ∀ w : World, (fencedOpening treeTable p w N).map (fun s => (s.heap, s.gens, s.drawn, s.toks)) = some (H₀ w.params, gs₀, d₀, k₀))
    (size : ∀ w : World, ((H₀ w.params).isNs mainGlobals && gs₀.size == 0, (H₀ w.params).objs.size, (H₀ w.params).nsMap mainGlobals "__annotations__") = (true, m₀, ann))
    (run : ∀ (w : World) (os : OsState), ∃ s₁, topRun treeTable p w m₀ ann N ⟨H₀ w.params, gs₀, d₀, k₀, os⟩ (topStub p) = some s₁ ∧
      (staticsOk (importedModules p.main.body) (H₀ w.params) s₁.heap && namesBound p s₁.heap && gensDone s₁ && laidKept (H₀ w.params) s₁.heap) = true ∧ openSeen q loose (importedModules p.main.body) Xt g0 s₁ = openGood q loose ∧ Yf s₁ = true) :
    LeftO p q loose Xt Yf (fun u_ => true) N g0 := fun w => by
  obtain ⟨⟨h, gs, d, k, os⟩, e, e'⟩ := Option.map_eq_some_iff.mp (open_ w)
  obtain ⟨rfl, rfl, rfl, rfl⟩ : h = H₀ w.params ∧ gs = gs₀ ∧ d = d₀ ∧ k = k₀ := by simpa using e'
  obtain ⟨z1, z2, z3⟩ : _ ∧ _ ∧ _ := by simpa only [Prod.mk.injEq] using size w
  obtain ⟨s, r, l1, l2, l3⟩ := run w os
  have t : topFrom treeTable p w N ⟨H₀ w.params, gs, d, k, os⟩ = some s := by
    unfold topFrom
    dsimp only
    rw [z1, z2, z3, r]
    show (match staticsOk (importedModules p.main.body) (H₀ w.params) s.heap && namesBound p s.heap && gensDone s && laidKept (H₀ w.params) s.heap with | true => some s | false => none) = _
    rw [l1]
  unfold openEnds
  rw [e]
  show (topFrom treeTable p w N _).map _ = _
  rw [t]
  exact congrArg some (Prod.ext l2 l3)
theorem run_gen {p q : Program} {loose : List Str} {Yf : Shared → Bool} {w : World} {N m₀ : Nat} {g0 : Bool} {ann : Option Value} {S : SharedT} {h₀ : Heap} {s₀ : Shared} (hS : S.abs = s₀) {Xt : Shared → Bool}
    (h : (topRunT treeTable p w m₀ ann N S (topStub p)).map (fun s => ((staticsOk (importedModules p.main.body) h₀ s.abs.heap && namesBound p s.abs.heap && gensDone s.abs && laidKept h₀ s.abs.heap), openSeen q loose (importedModules p.main.body) Xt g0 s.abs, Yf s.abs)) = some (true, openGood q loose, true)) :
    ∃ s₁, topRun treeTable p w m₀ ann N s₀ (topStub p) = some s₁ ∧ (staticsOk (importedModules p.main.body) h₀ s₁.heap && namesBound p s₁.heap && gensDone s₁ && laidKept h₀ s₁.heap) = true ∧ openSeen q loose (importedModules p.main.body) Xt g0 s₁ = openGood q loose ∧ Yf s₁ = true := by
  obtain ⟨s, hs, hv⟩ := Option.map_eq_some_iff.mp h
  have r := topRunT_spec hs
  rw [hS] at r
  exact ⟨s.abs, r, congrArg (·.1) hv, congrArg (·.2.1) hv, congrArg (·.2.2) hv⟩
theorem size_boot (P : Params) : ((boot_heap P).isNs mainGlobals && (Array.mk ([] : List GenState)).size == 0, (boot_heap P).objs.size, (boot_heap P).nsMap mainGlobals "__annotations__") = (true, 11, some (.ref 6)) := by kernel_rfl
theorem ob1 : opening Challenge.pw_nt0108_01 = plainProg Challenge.pw_nt0108_01.main.scope.names := by kernel_rfl
theorem ob2 (s : Shared) : fenceModules? Challenge.pw_nt0108_01 s = some s := by kernel_rfl
theorem open_boot : ∀ w : World, (fencedOpening treeTable Challenge.pw_nt0108_01 w 9000).map (fun s => (s.heap, s.gens, s.drawn, s.toks)) = some (boot_heap w.params, Array.mk [], boot_drawn, boot_toks) :=
  boot_open ob1 (by kernel_rfl) ob2
end Mine
end
section
open PySem.Calls
namespace Mine
theorem map_and {α β γ : Type} {x : Option α} {f : α → β} {g : α → γ} {b : β} {c : γ} (h1 : x.map f = some b) (h2 : x.map g = some c) : ∃ a, x = some a ∧ f a = b ∧ g a = c := by
  obtain ⟨a, rfl, e⟩ := Option.map_eq_some_iff.mp h1
  exact ⟨a, rfl, e, Option.some.inj h2⟩
theorem left_O : LeftO Challenge.pw_nt0108_01 viewP looseN (fun u_ => true) (fun s => allB (fragOf s.heap)) (fun u_ => true) 9000 false :=
  left_gen open_boot (fun w => size_boot w.params) fun w os => by
    obtain ⟨s, hs, h1, h2⟩ := map_and (run_ac w os) (run_b w os)
    have r := topRunT_spec hs
    rw [boot_abs] at r
    exact ⟨s.abs, r, congrArg (·.1) h1, h2, congrArg (·.2) h1⟩
theorem ofPys_ints : ∀ ns : List Int, ofPys (ns.map .int) = ns.map WData.int
  | [] => rfl
  | n :: ns => by rw [List.map_cons, List.map_cons, ofPys, ofPys_ints ns, ofPy]
theorem pre_ints {args : List WData} (hpre : Challenge.rw_nt0108_01.row.claim.pre args = true) (hlay : WData.layableAll args = true) : ∃ ns : List Int, args = [.list (ns.map .int)] ∧ ns.length ≤ 63 ∧ PyData.layable0 (.list (ns.map .int)) = true := by
  have hsh := (pre_splitW hpre).1
  have hcond := (pre_splitW hpre).2
  obtain ⟨d, r, rfl, h1, h2⟩ := hasAllW_cons hsh
  obtain rfl := hasAllW_nil h2
  obtain ⟨p, rfl, hp, hl⟩ := open_plain (.list .int) (by decide) h1 (layW_cons hlay).1
  obtain ⟨ns, rfl⟩ := has_list_int hp
  refine ⟨ns, by rw [ofPy, ofPys_ints], ?_, layable0_of_all hl⟩
  have q := (holds_andW hcond).1
  rw [ofPy, ofPys_ints] at q
  have v : (WTm.not (.lt (.lit (.int 63)) (.len (.arg 0)))).value ([] : WRecords) { args := [.list (ns.map WData.int)] } = some (.bool (!decide ((63 : Int) < (ns.map WData.int).length))) := by wtm_val
  have := condW_of q v
  rw [List.length_map] at this
  simp at this
  lia
theorem law_pinned {w : World} {s : Shared} (hg : s.heap.isNs mainGlobals = true) (G : Ground viewP looseN [] (fun u_ u_ => True) w s (s.heap.nsMap mainGlobals) (s.heap.nsMap builtinsNs) s.heap) : isTheDefsW Challenge.pw_nt0108_01 s.heap (Str.ofString "law") := by
  have h0 : (defOf viewP (Str.ofString "law")).isSome = true := by kernel_rfl
  have h1 : Challenge.pw_nt0108_01.theDef (Str.ofString "law") = (defOf viewP (Str.ofString "law")).map fun x => (x.1.params, x.1.body, x.1.scope) := by kernel_rfl
  have h2 : ((defOf viewP (Str.ofString "law")).map fun x => kwWritten? x.1.params.kwonlyargs x.1.params.kw_defaults) = (defOf viewP (Str.ofString "law")).map fun x => some x.2 := by kernel_rfl
  obtain ⟨⟨d, kwd⟩, e⟩ := Option.isSome_iff_exists.mp h0
  rw [e] at h1 h2
  exact pinned_of_view hg G e h1 (Option.some.inj h2)
theorem law_post (args : List WData) : Challenge.rw_nt0108_01.row.claim.post args (.bool true) args = true :=
  postW_of (r := Challenge.rw_nt0108_01.row.toRowW) (X := true) (by wrow_shape) (by wtm_val) rfl
theorem fin : Challenge.rw_nt0108_01.Holds := by
  have wit : Challenge.rw_nt0108_01.row.toRowW.promised := ⟨[.list []], by decide +kernel, by decide +kernel⟩
  refine holds_law (by kernel_rfl) fun said => ⟨said, wit, ?_⟩
  refine open_C (r := Challenge.rw_nt0108_01.row.toRowW) (run := fun f vs => PySem.call f vs) (tree := fun vs => do match ← nsGet mainNs Challenge.rw_nt0108_01.row.name with
      | some f => do ret (← PySem.call f vs)
      | none => unsupported "claim.caller:no-such-global") (XP := fun u_ u_ => True) (YP := fun u_ h => TopIs h) left_O (fun w s h => ⟨_, fragOf_in _, h⟩) (fun w h h' T k => let ⟨K, a, b⟩ := T; ⟨K, a.keeps k, b⟩) (fun u_ u_ => trivial) (fun u_ u_ u_ u_ u_ => trivial) (fun s u_ => recFacts_nil rfl) rfl (by kernel_rfl)
    ⟨rfl, rfl, rfl, rfl, rfl, by decide +kernel⟩ wit
    (fun vs w s mg f Q E hg hf h => wpC_bind (wpC_of (wpAny_nsGet hg (by rw [hf]; exact wpC_bind (wpC_mono h (fun u_ u_ x => wpC_pure x) fun u_ u_ x => x))))) (fun w s hg G n hn => ?_) ?_
  · obtain rfl := List.mem_singleton.mp hn
    exact law_pinned hg G
  · intro w s₀ s₁ mg mb G T args vs as hpre hlay hg hrd hwl hlo
    obtain ⟨ns, rfl, hl, hly⟩ := pre_ints hpre hlay
    obtain _ | ⟨r1, r2⟩ := hrd
    cases r2
    obtain ⟨a, ws, as', rfl, ⟨o, ho, hc, k, hd⟩, ri, rfl⟩ := readsW_list_inv r1
    have R := law_runs (prog := Challenge.pw_nt0108_01) (w := w) (Q := fun v s' => GoodW Challenge.rw_nt0108_01.row.claim (classAt s₀.heap) (ExcName.means s₀.heap) [.list (ns.map .int)] s₁ (.ok (.ret v)) s')
      (E := fun e s' => GoodW Challenge.rw_nt0108_01.row.claim (classAt s₀.heap) (ExcName.means s₀.heap) [.list (ns.map .int)] s₁ (.error e) s') T G.T.nolimit G.T.g G.T.b G.T.builtins ho hc hd ri (fun n hn => intBits_le_of_item hn hly) hl
      fun s' hk hos hgs => ⟨.inl ⟨_, .bool true, [], rfl, fun u_ => rfl, .bool true, law_post _, fun u_ => ⟨.nil, fun u_ h => nomatch h⟩⟩, hk, hos, hgs.trans hg⟩
    exact ⟨_, R⟩
end Mine
end
section
theorem PySem.Challenge.cw_nt0108_01_holds : PySem.Challenge.rw_nt0108_01.Holds :=
  Mine.fin
end
