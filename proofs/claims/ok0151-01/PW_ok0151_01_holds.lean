import PyProof.Rows.All
import Wide.All
import OpenK.AllK
import Wide.FinOn
import Lean
import PySem.Challenge.RW_ok0151_01
open PySem PySem.W PySem.Calls PyProof.Rows
set_option Elab.async false
set_option maxRecDepth 100000
set_option maxHeartbeats 8000000
set_option linter.all false
set_option compiler.extract_closed false
namespace Mine
noncomputable def classList : List Addr := [382, 455, 481, 512, 540, 603, 669, 702, 737, 767]
noncomputable def attrOk (K : Frag) (C : Addr) (x : String) : Bool := plainGet K C (Str.ofString x) && hasDictIn K C && (match findIn K (.ref C) (Str.ofString x) with | some attr => noGet K attr | none => false)
noncomputable def methOk (K : Frag) (C : Addr) (x : String) (f : Addr) : Bool := plainGet K C (Str.ofString x) && (findIn K (.ref C) (Str.ofString x) == some (some (.ref f))) && isFn K (.ref f)
noncomputable def storeOk1 (K : Frag) (C : Addr) (x : String) : Bool := (findIn K (.ref C) "__setattr__" == some (some (.builtin "object.__setattr__"))) && plainOver K C && (takerIn K C (Str.ofString x) == some none) && (clsIn K C).any (·.hasDict)
noncomputable def initOk (K : Frag) (C fI : Addr) : Bool := makesIn K C && (findIn K (.ref C) "__init__" == some (some (.ref fI))) && (typeIn K (.ref fI) == some (.type "function")) && keepIn K (.ref C)
noncomputable def init0Ok (K : Frag) (C : Addr) : Bool := makesIn K C && (findIn K (.ref C) "__init__" == some (some (.builtin "object.__init__"))) && keepIn K (.ref C)
noncomputable abbrev Fn := Arguments × List Stmt × Scope
noncomputable def fnOf : Stmt → Option Fn
  | .FunctionDef _ a b _ _ _ s _ _ _ => some (a, b, s)
  | _ => none
noncomputable def clsBody : Stmt → List Stmt
  | .ClassDef _ _ _ b _ _ _ _ _ _ _ => b
  | _ => []
noncomputable def noFn : Fn := (⟨[], [], none, [], [], none, []⟩, [], { kind := .function, names := [], isGenerator := false, isCoroutine := false, more := [] })
noncomputable def fn1 (p : Program) (i : Nat) : Fn := ((p.main.body[i]?).bind fnOf).getD noFn
noncomputable def fn2 (p : Program) (i j : Nat) : Fn := (((p.main.body[i]?).bind fun s => (clsBody s)[j]?).bind fnOf).getD noFn
noncomputable abbrev pw := PySem.Challenge.pw_ok0151_01
noncomputable def ORDER8 : List Int := [0, 1, 8, 16, 9, 2, 3, 10, 17, 24, 32, 25, 18, 11, 4, 5, 12, 19, 26, 33, 40, 48, 41, 34, 27, 20, 13, 6, 7, 14, 21, 28, 35, 42, 49, 56, 57, 50, 43, 36, 29, 22, 15, 23, 30, 37, 44, 51, 58, 59, 52, 45, 38, 31, 39, 46, 53, 60, 61, 54, 47, 55, 62, 63]
noncomputable def LUMAs : List Int := [16, 11, 10, 16, 24, 40, 51, 61, 12, 12, 14, 19, 26, 58, 60, 55, 14, 13, 16, 24, 40, 57, 69, 56, 14, 17, 22, 29, 51, 87, 80, 62, 18, 22, 37, 56, 68, 109, 103, 77, 24, 35, 55, 64, 81, 104, 113, 92, 49, 64, 78, 87, 103, 121, 120, 101, 72, 92, 95, 98, 112, 100, 103, 99]
noncomputable def CHROMAs : List Int := [17, 18, 24, 47, 18, 21, 26, 66, 24, 26, 56, 99, 47, 66, 99, 99]
noncomputable def KINDs : List Str := ["baseline", "extended", "progressive", "arith", "arith progressive"]
noncomputable def qRefs : List (String × Addr) := [("quality_scale", 33), ("scaled_by", 38), ("zigzag_places", 91), ("order", 316), ("chroma_at", 330), ("picked_std_quant", 337), ("to_row", 321), ("Tables", 382), ("chroma", 351), ("luma", 344), ("scaled_table", 45), ("_law_hundredths", 792), ("parts", 586), ("even_forward", 400), ("odd_flow", 421), ("descaled", 393), ("forward_row", 426), ("turned", 414), ("IslowDct", 455), ("FourDct", 481), ("TwoDct", 512), ("OneDct", 540), ("picked_transform", 551), ("kept_in", 748), ("block_of", 26), ("forward", 558), ("quantise", 52), ("coded_block", 572), ("_law_from", 785), ("_law_rounded", 804), ("_law_sums", 821), ("_law_rows", 809), ("Plane", 737), ("Grid", 702), ("put_component", 579), ("_law_block", 814), ("_law_is_block", 826), ("_law_urn", 778), ("Component", 603), ("Frame", 669), ("Settings", 767), ("made_tables", 565), ("_law_divisors", 797), ("_law_component_right", 831), ("law", 838)]
noncomputable def qBlts : List (String × Value) := [("len", .builtin "len"), ("abs", .builtin "abs"), ("min", .builtin "min"), ("max", .builtin "max"), ("tuple", .type "tuple"), ("range", .type "range"), ("list", .type "list"), ("sum", .builtin "sum"), ("zip", .type "zip")]
noncomputable def qInts : List (String × Int) := [("CHROMA_HIGH", 99), ("SIDE_std_quant", 8), ("C_0_541", 4433), ("C_0_765", 6270), ("C_1_847", 15137), ("C_1_175", 9633), ("C_0_899", 7373), ("C_2_562", 20995), ("C_1_961", 16069), ("C_0_390", 3196), ("C_0_298", 2446), ("C_2_053", 16819), ("C_3_072", 25172), ("C_1_501", 12299), ("SIDE_dct_islow", 8), ("PASS_BITS", 2), ("CONST_BITS", 13), ("SIDE_dct_small", 4), ("SCALE", 8)]
noncomputable def qAttrs : List String := ["precision", "components", "quant", "n", "quality", "across", "down", "width", "height", "planes", "rows"]
noncomputable def qStores : List String := ["kind", "precision", "height", "width", "components", "n", "quant", "codes", "conditioning", "ident", "across", "down", "quality", "sampling", "interval", "optimise", "scans", "model", "rows", "many", "planes"]
noncomputable def qMeths : List (Addr × String × Addr) := [(669, "most_across", 626), (669, "most_down", 631), (669, "plane_size", 652), (512, "sums", 509), (540, "forward", 530), (512, "forward", 497), (481, "forward", 473), (455, "forward", 445), (737, "at", 727), (669, "blocks", 659), (702, "put", 699), (669, "mcus_across", 638), (669, "mcus_down", 645), (669, "padded", 666)]
noncomputable def qInits : List (Addr × Addr) := [(382, 365), (737, 720), (702, 685), (603, 600), (669, 621), (767, 764)]
noncomputable def qInits0 : List Addr := [455, 481, 512, 540]
noncomputable def qFnsP (pw : Program) : List (Addr × Fn) := [(778, fn1 pw 81), (621, fn2 pw 71 0), (365, fn2 pw 27 0), (38, fn1 pw 5), (33, fn1 pw 4), (45, fn1 pw 6), (91, fn1 pw 12), (316, fn1 pw 14), (321, fn1 pw 15), (330, fn1 pw 21), (337, fn1 pw 22), (351, fn1 pw 25), (344, fn1 pw 24), (565, fn1 pw 65), (600, fn2 pw 70 0), (764, fn2 pw 79 0), (792, fn1 pw 83), (797, fn1 pw 84), (785, fn1 pw 82), (586, fn1 pw 69), (626, fn2 pw 71 1), (631, fn2 pw 71 2), (652, fn2 pw 71 5), (659, fn2 pw 71 6), (699, fn2 pw 73 2), (52, fn1 pw 7), (414, fn1 pw 37), (400, fn1 pw 35), (421, fn1 pw 50), (393, fn1 pw 34), (426, fn1 pw 51), (445, fn2 pw 53 0), (473, fn2 pw 56 0), (509, fn2 pw 57 2), (497, fn2 pw 57 0), (530, fn2 pw 58 0), (551, fn1 pw 61), (558, fn1 pw 63), (748, fn1 pw 76), (727, fn2 pw 75 1), (26, fn1 pw 2), (572, fn1 pw 66), (579, fn1 pw 67), (638, fn2 pw 71 3), (645, fn2 pw 71 4), (666, fn2 pw 71 7), (809, fn1 pw 86), (720, fn2 pw 75 0), (685, fn2 pw 73 0), (814, fn1 pw 87), (804, fn1 pw 85), (821, fn1 pw 88), (826, fn1 pw 89), (831, fn1 pw 90), (838, fn1 pw 91)]
noncomputable def qFns : List (Addr × Fn) := qFnsP pw
noncomputable def qAddrs : List Addr := [365, 381, 382, 445, 454, 455, 473, 480, 481, 497, 509, 511, 512, 530, 539, 540, 600, 602, 603, 621, 626, 631, 638, 645, 652, 659, 666, 668, 669, 685, 699, 701, 702, 720, 727, 736, 737, 764, 766, 767]
structure View where
  params : Arguments
  body : FuncBody
  scope : Scope
  globals : Addr
  builtins : Addr
  plain : Bool
  nodef : Bool
  dflt : Bool
noncomputable def codeIs (h : Heap) (cd : Value) (q : Str) : Bool := match cd with
  | .ref c => match h.get? c with
    | some o => match o.data with
      | .fields vs => match (vs[1]? : Option Value) with
        | some (.str q' _) => q' == q
        | _ => false
      | _ => false
    | none => false
  | _ => false
noncomputable def isStr (x : Str) : Value → Bool
  | .str y _ => y == x
  | _ => false
noncomputable def isInt (i : Int) : Value → Bool
  | .int j _ => j == i
  | _ => false
noncomputable def isFls : Value → Bool
  | .bool b => b == false
  | _ => false
noncomputable def isNon : Value → Bool
  | .none => true
  | _ => false
noncomputable def dfltL : List (Value → Bool) → List Value → Bool
  | [], [] => true
  | f :: fs, v :: vs => f v && dfltL fs vs
  | _, _ => false
noncomputable def dfltFs : List (Value → Bool) := [isStr (Str.ofString "baseline"), isInt 75, isNon, isInt 0, isFls, isNon, isInt 8, isStr (Str.ofString "ycc")]
noncomputable def dfltIs (h : Heap) : Value → Bool
  | .ref T => match h.get? T with
    | some o => match o.data with
      | .seq items _ => dfltL dfltFs items.toList
      | _ => false
    | none => false
  | _ => false
noncomputable def isNoneV : Value → Bool
  | .none => true
  | _ => false
noncomputable def viewAt (h : Heap) (a : Addr) : Option View := match h.get? a with
  | some o => match o.data with
    | .func fd => some ⟨fd.params, fd.body, fd.scope, fd.globals, fd.builtins, fd.closure.isEmpty && codeIs h fd.code fd.qualname, isNoneV fd.defaults, dfltIs h fd.defaults⟩
    | _ => none
  | none => none
noncomputable def viewOf (F : Fn) (d : Bool) : View := ⟨F.1, .stmts F.2.1, F.2.2, mainGlobals, builtinsNs, true, !d, d⟩
noncomputable def Kof (h : Heap) : Frag := qAddrs.map fun a => (a, (h.get? a).getD { cls := .none, data := .freed })
noncomputable def intIs (v : Option Value) (i : Int) : Bool := match v with
  | some (.int j _) => j == i
  | _ => false
noncomputable def intsAre : List Value → List Int → Bool
  | [], [] => true
  | .int j _ :: r, i :: s => j == i && intsAre r s
  | _, _ => false
noncomputable def strsAre : List Value → List Str → Bool
  | [], [] => true
  | .str j _ :: r, i :: s => j == i && strsAre r s
  | _, _ => false
noncomputable def tupIs (h : Heap) (v : Option Value) (ok : List Value → Bool) : Bool := match v with
  | some (.ref a) => match h.get? a with
    | some ⟨.type t, none, .seq items _, sl⟩ => t == "tuple" && sl.isEmpty && ok items.toList
    | _ => false
  | _ => false
noncomputable def factsOk (h : Heap) : Bool :=
  h.isNs mainGlobals && h.isNs builtinsNs && (h.get? sysModules).isSome && qAddrs.all (fun a => (h.get? a).isSome) &&
  qRefs.all (fun p => h.nsMap mainGlobals (Str.ofString p.1) == some (.ref p.2)) &&
  qBlts.all (fun p => (h.nsMap mainGlobals (Str.ofString p.1)).isNone && h.nsMap builtinsNs (Str.ofString p.1) == some p.2) &&
  qInts.all (fun p => intIs (h.nsMap mainGlobals (Str.ofString p.1)) p.2) &&
  (tupIs h (h.nsMap mainGlobals "ORDER_8") (intsAre · ORDER8) && tupIs h (h.nsMap mainGlobals "LUMA") (intsAre · LUMAs) && tupIs h (h.nsMap mainGlobals "CHROMA_LOW") (intsAre · CHROMAs) && tupIs h (h.nsMap mainGlobals "KINDS") (strsAre · KINDs)) &&
  classList.all (fun C => qAttrs.all fun x => attrOk (Kof h) C x) && classList.all (fun C => qStores.all fun x => storeOk1 (Kof h) C x) &&
  qMeths.all (fun p => methOk (Kof h) p.1 p.2.1 p.2.2) && qInits.all (fun p => initOk (Kof h) p.1 p.2) && qInits0.all (fun C => init0Ok (Kof h) C)
noncomputable def obsP (q : Program) (h : Heap) : List (Option View) × Bool := ((qFnsP q).map fun p => viewAt h p.1, factsOk h)
noncomputable def obsGoodP (q : Program) : List (Option View) × Bool := ((qFnsP q).map fun p => some (viewOf p.2 (p.1 == 764)), true)
noncomputable def obs (h : Heap) : List (Option View) × Bool := obsP pw h
noncomputable def obsGood : List (Option View) × Bool := obsGoodP pw
noncomputable def isNsG (g : Addr → Option Obj) (a : Addr) : Bool := match g a with
  | some o => (match o.data with | .dict es _ => es.all (fun e => match e.key with | .str _ _ => true | _ => false) | _ => false)
  | none => false
noncomputable def nsMapG (g : Addr → Option Obj) (a : Addr) (x : Str) : Option Value := match g a with
  | some o => (match o.data with | .dict es _ => nsFind es x | _ => none)
  | none => none
noncomputable def codeIsG (g : Addr → Option Obj) (cd : Value) (q : Str) : Bool := match cd with
  | .ref c => match g c with
    | some o => match o.data with
      | .fields vs => match (vs[1]? : Option Value) with
        | some (.str q' _) => q' == q
        | _ => false
      | _ => false
    | none => false
  | _ => false
noncomputable def dfltIsG (g : Addr → Option Obj) : Value → Bool
  | .ref T => match g T with
    | some o => match o.data with
      | .seq items _ => dfltL dfltFs items.toList
      | _ => false
    | none => false
  | _ => false
noncomputable def viewAtG (g : Addr → Option Obj) (a : Addr) : Option View := match g a with
  | some o => match o.data with
    | .func fd => some ⟨fd.params, fd.body, fd.scope, fd.globals, fd.builtins, fd.closure.isEmpty && codeIsG g fd.code fd.qualname, isNoneV fd.defaults, dfltIsG g fd.defaults⟩
    | _ => none
  | none => none
noncomputable def KofG (g : Addr → Option Obj) : Frag := qAddrs.map fun a => (a, (g a).getD { cls := .none, data := .freed })
noncomputable def tupIsG (g : Addr → Option Obj) (v : Option Value) (ok : List Value → Bool) : Bool := match v with
  | some (.ref a) => match g a with
    | some ⟨.type t, none, .seq items _, sl⟩ => t == "tuple" && sl.isEmpty && ok items.toList
    | _ => false
  | _ => false
noncomputable def factsOkG (g : Addr → Option Obj) : Bool :=
  isNsG g mainGlobals && isNsG g builtinsNs && (g sysModules).isSome && qAddrs.all (fun a => (g a).isSome) &&
  qRefs.all (fun p => nsMapG g mainGlobals (Str.ofString p.1) == some (.ref p.2)) &&
  qBlts.all (fun p => (nsMapG g mainGlobals (Str.ofString p.1)).isNone && nsMapG g builtinsNs (Str.ofString p.1) == some p.2) &&
  qInts.all (fun p => intIs (nsMapG g mainGlobals (Str.ofString p.1)) p.2) &&
  (tupIsG g (nsMapG g mainGlobals "ORDER_8") (intsAre · ORDER8) && tupIsG g (nsMapG g mainGlobals "LUMA") (intsAre · LUMAs) && tupIsG g (nsMapG g mainGlobals "CHROMA_LOW") (intsAre · CHROMAs) && tupIsG g (nsMapG g mainGlobals "KINDS") (strsAre · KINDs)) &&
  classList.all (fun C => qAttrs.all fun x => attrOk (KofG g) C x) && classList.all (fun C => qStores.all fun x => storeOk1 (KofG g) C x) &&
  qMeths.all (fun p => methOk (KofG g) p.1 p.2.1 p.2.2) && qInits.all (fun p => initOk (KofG g) p.1 p.2) && qInits0.all (fun C => init0Ok (KofG g) C)
noncomputable def obsG (q : Program) (g : Addr → Option Obj) : List (Option View) × Bool := ((qFnsP q).map fun p => viewAtG g p.1, factsOkG g)
noncomputable def getT (t : BT) (n : Nat) (a : Addr) : Option Obj := match Nat.blt a n with
  | true => match (t.get a).getD default with
    | ⟨_, _, .freed, _⟩ => none
    | o => some o
  | false => none
theorem obsG_get (q : Program) (h : Heap) : obsG q h.get? = obsP q h := rfl
theorem getT_eq (t : BT) (n : Nat) (life : Life) : (absHeap t n life).get? = getT t n := by
  funext a
  unfold Heap.get? getT
  rw [absHeap_at]
  cases h : Nat.blt a n with
  | true =>
    have : a < n := Nat.blt_eq.mp h
    rw [if_pos this]
    generalize (t.get a).getD default = o
    obtain ⟨_, _, d, _⟩ := o
    cases d <;> rfl
  | false =>
    have : ¬ a < n := fun z => by rw [Nat.blt_eq.mpr z] at h; cases h
    rw [if_neg this]
end Mine
namespace Mine
noncomputable def topRunT (tb : String → Option Builtin) (p : Program) (w : World) (n₀ : Nat) (ann : Option Value) : Nat → SharedT → Thread → Option SharedT
  | 0, _, _ => none
  | n + 1, s, t => match through t with
    | true => some s
    | false => match stepOk n₀ ann t with
      | false => none
      | true => match stepT (denote tb) p w s t with
        | some (s', t') => topRunT tb p w n₀ ann n s' t'
        | none => none
/-- the same run with the state's parts as arguments, the plain steps taken at once -/
noncomputable def fuse (tb : String → Option Builtin) (p : Program) (w : World) (n₀ : Nat) (ann : Option Value) : Nat → BT → Nat → Life → Array GenState → Drawn → Nat → OsState → Sem Fin → Code → Pos → List Frame → Option SharedT
  | 0, _, _, _, _, _, _, _, _, _, _, _ => none
  | n + 1, T, m, life, gens, drawn, toks, os, cur, code, pos, stack => match cur with
    | .rule _ k => fuse tb p w n₀ ann n T m life gens drawn toks os (k ()) code pos stack
    | .at q k => fuse tb p w n₀ ann n T m life gens drawn toks os (k ()) code q stack
    | .point _ k => fuse tb p w n₀ ann n T m life gens drawn toks os (k ()) code pos stack
    | .fresh k => fuse tb p w n₀ ann n T m life gens drawn (toks + 1) os (k toks) code pos stack
    | .ask k => fuse tb p w n₀ ann n T m life gens drawn toks os (k ⟨p, w.params⟩) code pos stack
    | .load a _ k => match Nat.blt a m with
      | true => match T.get a with
        | some o => match alive o with
          | some o' => fuse tb p w n₀ ann n T m life gens drawn toks os (k o') code pos stack
          | none => none
        | none => none
      | false => none
    | .update a _ f k => match Nat.ble n₀ a || a == mainNs || a == cStatics || ann == some (.ref a) with
      | true => match Nat.blt a m with
        | true => match T.get a with
          | some o => match alive o with
            | some _ => fuse tb p w n₀ ann n (T.set a f) m life gens drawn toks os (k ()) code pos stack
            | none => none
          | none => none
        | false => none
      | false => none
    | .alloc o k => match ((T.ins m o).get m).isSome with
      | true => fuse tb p w n₀ ann n (T.ins m o) (m + 1) life gens drawn toks os (k m) code pos stack
      | false => none
    | c => match through ⟨c, code, pos, stack⟩ with
      | true => some ⟨T, m, life, gens, drawn, toks, os⟩
      | false => match stepOk n₀ ann ⟨c, code, pos, stack⟩ with
        | false => none
        | true => match stepT (denote tb) p w ⟨T, m, life, gens, drawn, toks, os⟩ ⟨c, code, pos, stack⟩ with
          | some (⟨T', m', l', g', d', t', o'⟩, ⟨c', code', pos', stack'⟩) => fuse tb p w n₀ ann n T' m' l' g' d' t' o' c' code' pos' stack'
          | none => none
theorem topRunT_go {tb : String → Option Builtin} {p : Program} {w : World} {n₀ : Nat} {ann : Option Value} {n : Nat} {s : SharedT} {t : Thread} (h1 : through t = false) (h2 : stepOk n₀ ann t = true) :
    topRunT tb p w n₀ ann (n + 1) s t = match stepT (denote tb) p w s t with | some (s', t') => topRunT tb p w n₀ ann n s' t' | none => none := by
  show (match through t with | true => _ | false => _) = _
  rw [h1]
  show (match stepOk n₀ ann t with | false => _ | true => _) = _
  rw [h2]
theorem fuse_eq {tb : String → Option Builtin} {p : Program} {w : World} {n₀ : Nat} {ann : Option Value} : ∀ (n : Nat) (T : BT) (m : Nat) (life : Life) (gens : Array GenState) (drawn : Drawn) (toks : Nat) (os : OsState) (cur : Sem Fin) (code : Code) (pos : Pos) (stack : List Frame),
    fuse tb p w n₀ ann n T m life gens drawn toks os cur code pos stack = topRunT tb p w n₀ ann n ⟨T, m, life, gens, drawn, toks, os⟩ ⟨cur, code, pos, stack⟩
  | 0, _, _, _, _, _, _, _, _, _, _, _ => rfl
  | n + 1, T, m, life, gens, drawn, toks, os, cur, code, pos, stack => by
    have gen : (match through ⟨cur, code, pos, stack⟩ with
      | true => some (⟨T, m, life, gens, drawn, toks, os⟩ : SharedT)
      | false => match stepOk n₀ ann ⟨cur, code, pos, stack⟩ with
        | false => none
        | true => match stepT (denote tb) p w ⟨T, m, life, gens, drawn, toks, os⟩ ⟨cur, code, pos, stack⟩ with
          | some (⟨T', m', l', g', d', t', o'⟩, ⟨c', code', pos', stack'⟩) => fuse tb p w n₀ ann n T' m' l' g' d' t' o' c' code' pos' stack'
          | none => none) = topRunT tb p w n₀ ann (n + 1) ⟨T, m, life, gens, drawn, toks, os⟩ ⟨cur, code, pos, stack⟩ := by
      show _ = (match through _ with | true => _ | false => _)
      cases through ⟨cur, code, pos, stack⟩ with
      | true => rfl
      | false =>
        show _ = (match stepOk n₀ ann _ with | false => _ | true => _)
        cases stepOk n₀ ann ⟨cur, code, pos, stack⟩ with
        | false => rfl
        | true =>
          show _ = (match stepT (denote tb) p w _ _ with | some (s', t') => _ | none => _)
          cases stepT (denote tb) p w ⟨T, m, life, gens, drawn, toks, os⟩ ⟨cur, code, pos, stack⟩ with
          | none => rfl
          | some r =>
            obtain ⟨⟨T', m', l', g', d', t', o'⟩, ⟨c', code', pos', stack'⟩⟩ := r
            exact fuse_eq n T' m' l' g' d' t' o' c' code' pos' stack'
    cases cur with
    | rule a k => exact (fuse_eq n T m life gens drawn toks os (k ()) code pos stack).trans (topRunT_go (tb := tb) (p := p) (w := w) (n₀ := n₀) (ann := ann) (n := n) (s := ⟨T, m, life, gens, drawn, toks, os⟩) (t := ⟨.rule a k, code, pos, stack⟩) (Bool.and_false _) rfl).symm
    | «at» q k => exact (fuse_eq n T m life gens drawn toks os (k ()) code q stack).trans (topRunT_go (tb := tb) (p := p) (w := w) (n₀ := n₀) (ann := ann) (n := n) (s := ⟨T, m, life, gens, drawn, toks, os⟩) (t := ⟨.at q k, code, pos, stack⟩) (Bool.and_false _) rfl).symm
    | point a k => exact (fuse_eq n T m life gens drawn toks os (k ()) code pos stack).trans (topRunT_go (tb := tb) (p := p) (w := w) (n₀ := n₀) (ann := ann) (n := n) (s := ⟨T, m, life, gens, drawn, toks, os⟩) (t := ⟨.point a k, code, pos, stack⟩) (Bool.and_false _) rfl).symm
    | fresh k => exact (fuse_eq n T m life gens drawn (toks + 1) os (k toks) code pos stack).trans (topRunT_go (tb := tb) (p := p) (w := w) (n₀ := n₀) (ann := ann) (n := n) (s := ⟨T, m, life, gens, drawn, toks, os⟩) (t := ⟨.fresh k, code, pos, stack⟩) (Bool.and_false _) rfl).symm
    | ask k => exact (fuse_eq n T m life gens drawn toks os (k ⟨p, w.params⟩) code pos stack).trans (topRunT_go (tb := tb) (p := p) (w := w) (n₀ := n₀) (ann := ann) (n := n) (s := ⟨T, m, life, gens, drawn, toks, os⟩) (t := ⟨.ask k, code, pos, stack⟩) (Bool.and_false _) rfl).symm
    | load a q k =>
      have st : stepT (denote tb) p w ⟨T, m, life, gens, drawn, toks, os⟩ ⟨.load a q k, code, pos, stack⟩ = (match Nat.blt a m with
        | true => match T.get a with
          | some o => match alive o with
            | some o' => some ((⟨T, m, life, gens, drawn, toks, os⟩ : SharedT), (⟨k o', code, pos, stack⟩ : Thread))
            | none => none
          | none => none
        | false => none) := rfl
      show (match Nat.blt a m with
        | true => match T.get a with
          | some o => match alive o with
            | some o' => fuse tb p w n₀ ann n T m life gens drawn toks os (k o') code pos stack
            | none => none
          | none => none
        | false => none) = _
      rw [topRunT_go (t := ⟨.load a q k, code, pos, stack⟩) (Bool.and_false _) rfl, st]
      cases Nat.blt a m with
      | false => rfl
      | true =>
        cases T.get a with
        | none => rfl
        | some o =>
          dsimp only
          cases alive o with
          | none => rfl
          | some o' => exact fuse_eq n T m life gens drawn toks os (k o') code pos stack
    | update a q f k =>
      show (match Nat.ble n₀ a || a == mainNs || a == cStatics || ann == some (.ref a) with
      | true => match Nat.blt a m with
        | true => match T.get a with
          | some o => match alive o with
            | some _ => fuse tb p w n₀ ann n (T.set a f) m life gens drawn toks os (k ()) code pos stack
            | none => none
          | none => none
        | false => none
      | false => none) = _
      cases h : (Nat.ble n₀ a || a == mainNs || a == cStatics || ann == some (.ref a)) with
      | false =>
        show none = (match through _ with | true => _ | false => _)
        rw [show through ⟨.update a q f k, code, pos, stack⟩ = false from Bool.and_false _]
        show none = (match stepOk n₀ ann _ with | false => _ | true => _)
        rw [show stepOk n₀ ann ⟨.update a q f k, code, pos, stack⟩ = false from h]
      | true =>
        have st : stepT (denote tb) p w ⟨T, m, life, gens, drawn, toks, os⟩ ⟨.update a q f k, code, pos, stack⟩ = (match Nat.blt a m with
          | true => match T.get a with
            | some o => match alive o with
              | some _ => some ((⟨T.set a f, m, life, gens, drawn, toks, os⟩ : SharedT), (⟨k (), code, pos, stack⟩ : Thread))
              | none => none
            | none => none
          | false => none) := rfl
        rw [topRunT_go (t := ⟨.update a q f k, code, pos, stack⟩) (Bool.and_false _) h, st]
        dsimp only
        cases Nat.blt a m with
        | false => rfl
        | true =>
          cases T.get a with
          | none => rfl
          | some o =>
            dsimp only
            cases alive o with
            | none => rfl
            | some o' => exact fuse_eq n (T.set a f) m life gens drawn toks os (k ()) code pos stack
    | alloc o k =>
      have st : stepT (denote tb) p w ⟨T, m, life, gens, drawn, toks, os⟩ ⟨.alloc o k, code, pos, stack⟩ = (match ((T.ins m o).get m).isSome with
        | true => some ((⟨T.ins m o, m + 1, life, gens, drawn, toks, os⟩ : SharedT), (⟨k m, code, pos, stack⟩ : Thread))
        | false => none) := rfl
      show (match ((T.ins m o).get m).isSome with
        | true => fuse tb p w n₀ ann n (T.ins m o) (m + 1) life gens drawn toks os (k m) code pos stack
        | false => none) = _
      rw [topRunT_go (t := ⟨.alloc o k, code, pos, stack⟩) (Bool.and_false _) rfl, st]
      cases ((T.ins m o).get m).isSome with
      | false => rfl
      | true => exact fuse_eq n (T.ins m o) (m + 1) life gens drawn toks os (k m) code pos stack
    | _ => exact gen
theorem topRun_ofT {tb : String → Option Builtin} {p : Program} {w : World} {n₀ : Nat} {ann : Option Value} : ∀ {n : Nat} {s s' : SharedT} {t : Thread},
    topRunT tb p w n₀ ann n s t = some s' → topRun tb p w n₀ ann n s.abs t = some s'.abs
  | 0, _, _, _, h => by cases h
  | n + 1, s, s', t, h => by
    unfold topRunT at h
    unfold topRun
    cases he : through t with
    | true => rw [he] at h; cases h; rfl
    | false =>
      rw [he] at h
      cases hk : stepOk n₀ ann t with
      | false => rw [hk] at h; cases h
      | true =>
        rw [hk] at h
        cases hs : stepT (denote tb) p w s t with
        | none => rw [hs] at h; cases h
        | some r => obtain ⟨s₂, t₂⟩ := r; rw [hs] at h; rw [stepT_spec hs]; exact topRun_ofT h
noncomputable def endOk (p : Program) (h₀ : Heap) (s : Shared) : Bool :=
  staticsOk (importedModules p.main.body) h₀ s.heap && namesBound p s.heap && gensDone s && laidKept h₀ s.heap
theorem left_of {p q : Program} {loose : List Str} {Xt : Shared → Bool} {α : Type} {Yf : Shared → α} {Ya : World → α} {N M : Nat} {g0 : Bool} {H₀ : Params → Heap} {T₀ : Params → BT} {m₀ k₀ : Nat} {d₀ : Drawn} {ann : Option Value}
    (open_ : ∀ w : World, (fencedOpening treeTable p w N).map (fun s => (s.heap, s.gens, s.drawn, s.toks)) = some (H₀ w.params, Array.mk [], d₀, k₀))
    (abs : ∀ P, H₀ P = absHeap (T₀ P) m₀ {})
    (size : ∀ w : World, ((H₀ w.params).isNs mainGlobals, (H₀ w.params).objs.size, (H₀ w.params).nsMap mainGlobals "__annotations__") = (true, m₀, ann))
    (run : ∀ (w : World) (os : OsState), (topRunT treeTable p w m₀ ann M ⟨T₀ w.params, m₀, {}, Array.mk [], d₀, k₀, os⟩ (topStub p)).map
      (fun s => (endOk p (H₀ w.params) s.abs, openSeen q loose (importedModules p.main.body) Xt g0 s.abs, Yf s.abs)) = some (true, openGood q loose, Ya w))
    (le : Nat.ble M N = true) : LeftO p q loose Xt Yf Ya N g0 := fun w => by
  obtain ⟨⟨h, gs, d, k, os⟩, e, e'⟩ := Option.map_eq_some_iff.mp (open_ w)
  obtain ⟨rfl, rfl, rfl, rfl⟩ : h = H₀ w.params ∧ gs = Array.mk [] ∧ d = d₀ ∧ k = k₀ := by simpa using e'
  obtain ⟨z1, z2, z3⟩ : _ ∧ _ ∧ _ := by simpa only [Prod.mk.injEq] using size w
  obtain ⟨sT, r0, l⟩ := Option.map_eq_some_iff.mp (run w os)
  obtain ⟨l1, l2, l3⟩ : _ ∧ _ ∧ _ := by simpa only [Prod.mk.injEq] using l
  have r1 := topRun_ofT r0
  have r := topRun_mono (N - M) _ _ _ _ r1
  rw [show M + (N - M) = N by have := Nat.le_of_ble_eq_true le; lia] at r
  have e0 : (SharedT.mk (T₀ w.params) m₀ {} (Array.mk []) d k os).abs = (⟨H₀ w.params, Array.mk [], d, k, os⟩ : Shared) := by
    show (⟨absHeap (T₀ w.params) m₀ {}, _, _, _, _⟩ : Shared) = _
    rw [← abs]
  rw [e0] at r
  have t : topFrom treeTable p w N ⟨H₀ w.params, Array.mk [], d, k, os⟩ = some sT.abs := by
    unfold topFrom
    dsimp only
    rw [z1, z2, z3, r]
    show (match endOk p (H₀ w.params) sT.abs with | true => _ | false => _) = _
    rw [l1]
  unfold openEnds
  rw [e]
  show (topFrom treeTable p w N _).map _ = _
  rw [t]
  exact congrArg some (Prod.ext l2 l3)
noncomputable def saidP (l : OpenLaw) : Bool := l.wellSaid
theorem saidP_e : saidP = saidP := rfl
noncomputable def T0 (P : Params) : BT :=
  ((((((((((BT.nil.ins 0 (boot_o_0 P)).ins 1 (boot_o_1 P)).ins 2 (boot_o_2 P)).ins 3 (boot_o_3 P)).ins 4 (boot_o_4 P)).ins 5 (boot_o_5 P)).ins 6 (boot_o_6 P)).ins 7 (boot_o_7 P)).ins 8 (boot_o_8 P)).ins 9 (boot_o_9 P)).ins 10 (boot_o_10 P)
noncomputable def qP (p : Program) : Program := view p [91]
noncomputable def looseP (p : Program) : List Str := p.boundNames.filter (fun n => n != Str.ofString "law")
noncomputable def XtP (p : Program) (s : Shared) : Bool := xlAt (qP p) [] s && recOk [] s
noncomputable def q0 : Program := qP PySem.Challenge.pw_ok0151_01
noncomputable def loose0 : List Str := looseP PySem.Challenge.pw_ok0151_01
noncomputable def Xt0 (s : Shared) : Bool := XtP PySem.Challenge.pw_ok0151_01 s
noncomputable def runObsP (p : Program) (w : World) (os : OsState) := (topRunT treeTable p w 11 (some (.ref 6)) 13700 ⟨T0 w.params, 11, {}, Array.mk [], boot_drawn, boot_toks, os⟩ (topStub p)).map
      (fun s => (endOk p (boot_heap w.params) s.abs, openSeen (qP p) (looseP p) (importedModules p.main.body) (XtP p) true s.abs, obsP p s.abs.heap))
noncomputable def runTP (p : Program) (w : World) (os : OsState) := (fuse treeTable p w 11 (some (.ref 6)) 13700 (T0 w.params) 11 {} (Array.mk []) boot_drawn boot_toks os (topStub p).cur (topStub p).code (topStub p).pos (topStub p).stack).map
      (fun s => (endOk p (boot_heap w.params) s.abs, openSeen (qP p) (looseP p) (importedModules p.main.body) (XtP p) true s.abs, obsG p (getT s.tree s.n)))
theorem runTP_of (p : Program) (w : World) (os : OsState) : runObsP p w os = runTP p w os := by
  have e : ∀ s : SharedT, obsP p s.abs.heap = obsG p (getT s.tree s.n) := fun s => by rw [← getT_eq s.tree s.n s.life]; rfl
  unfold runObsP runTP
  simp only [e, fuse_eq]
noncomputable def runValP (p : Program) (_ : World) := some (true, openGood (qP p) (looseP p), obsGoodP p)
theorem runTP_e : runTP = runTP := rfl
theorem runValP_e : runValP = runValP := rfl
end Mine
name_quick mineSaid for Mine.saidP by Mine.saidP_e
name_quick mineObs for Mine.runTP by Mine.runTP_e
name_quick mineVal for Mine.runValP by Mine.runValP_e
namespace Mine
theorem said_q : PySem.W.Fast.mineSaid PySem.Challenge.rw_ok0151_01 = true := by kernel_rfl
theorem said_l : OpenLaw.wellSaid PySem.Challenge.rw_ok0151_01 = true := by
  show saidP PySem.Challenge.rw_ok0151_01 = true
  rw [PySem.W.Fast.mineSaid_eq]; exact said_q
theorem run_f : ∀ (w : World) os, PySem.W.Fast.mineObs PySem.Challenge.pw_ok0151_01 (w.withFollow "special-get-raises" false) os = PySem.W.Fast.mineVal PySem.Challenge.pw_ok0151_01 (w.withFollow "special-get-raises" false) := fun w os => by kernel_rfl
theorem run_t : ∀ (w : World) os, PySem.W.Fast.mineObs PySem.Challenge.pw_ok0151_01 (w.withFollow "special-get-raises" true) os = PySem.W.Fast.mineVal PySem.Challenge.pw_ok0151_01 (w.withFollow "special-get-raises" true) := fun w os => by kernel_rfl
theorem run_quick : ∀ w os, PySem.W.Fast.mineObs PySem.Challenge.pw_ok0151_01 w os = PySem.W.Fast.mineVal PySem.Challenge.pw_ok0151_01 w :=
  byRow2 "special-get-raises" (P := fun w => ∀ os, PySem.W.Fast.mineObs PySem.Challenge.pw_ok0151_01 w os = PySem.W.Fast.mineVal PySem.Challenge.pw_ok0151_01 w) run_f run_t
theorem run_all (w : World) (os : OsState) : runObsP PySem.Challenge.pw_ok0151_01 w os = runValP PySem.Challenge.pw_ok0151_01 w := by
  rw [runTP_of, PySem.W.Fast.mineObs_eq, PySem.W.Fast.mineVal_eq]; exact run_quick w os
end Mine
namespace Mine
/-! eliminators: one copy of the goal each -/
theorem bindO {α β : Type} {o : Option α} {f : α → Option β} {r : β} {C : Prop} (q : o.bind f = some r) (k : ∀ a, o = some a → f a = some r → C) : C := by
  cases h : o with
  | none => rw [h] at q; cases q
  | some a => rw [h] at q; exact k a h q
theorem bindP {α δ β : Type} {o : Option (α × δ)} {f : α × δ → Option β} {r : β} {C : Prop} (q : o.bind f = some r) (k : ∀ a d, o = some (a, d) → f (a, d) = some r → C) : C :=
  bindO q fun p h h' => k p.1 p.2 h h'
theorem bindT {α δ ε β : Type} {o : Option (α × δ × ε)} {f : α × δ × ε → Option β} {r : β} {C : Prop} (q : o.bind f = some r) (k : ∀ a d e, o = some (a, d, e) → f (a, d, e) = some r → C) : C :=
  bindO q fun p h h' => k p.1 p.2.1 p.2.2 h h'
theorem mapO {α β : Type} {o : Option α} {f : α → β} {r : β} {C : Prop} (q : o.map f = some r) (k : ∀ a, o = some a → f a = r → C) : C := by
  cases h : o with
  | none => rw [h] at q; cases q
  | some a => rw [h] at q; exact k a h (Option.some.inj q)
theorem mapP {α δ β : Type} {o : Option (α × δ)} {f : α × δ → β} {r : β} {C : Prop} (q : o.map f = some r) (k : ∀ a d, o = some (a, d) → f (a, d) = r → C) : C :=
  mapO q fun p h h' => k p.1 p.2 h h'
theorem some1 {α : Type} {a a' : α} {motive : α → Prop} (q : some a = some a') (k : motive a) : motive a' := by cases q; exact k
theorem someP {α β : Type} {a a' : α} {b b' : β} {motive : α → β → Prop} (q : some (a, b) = some (a', b')) (k : motive a b) : motive a' b' := by cases q; exact k
theorem someT {α β γ : Type} {a a' : α} {b b' : β} {c c' : γ} {motive : α → β → γ → Prop} (q : some (a, b, c) = some (a', b', c')) (k : motive a b c) : motive a' b' c' := by cases q; exact k
theorem pairP {α β : Type} {a a' : α} {b b' : β} {motive : α → β → Prop} (q : (a, b) = (a', b')) (k : motive a b) : motive a' b' := by cases q; exact k
theorem pairT {α β γ : Type} {a a' : α} {b b' : β} {c c' : γ} {motive : α → β → γ → Prop} (q : (a, b, c) = (a', b', c')) (k : motive a b c) : motive a' b' c' := by cases q; exact k
theorem x0_2 {P0 P1 : Prop} {C : Prop} (h : (P0 ∧ P1)) (k : (P0 → P1 → C)) : C := k h.1 h.2
theorem x0_3 {P0 P1 P2 : Prop} {C : Prop} (h : (P0 ∧ P1 ∧ P2)) (k : (P0 → P1 → P2 → C)) : C := k h.1 h.2.1 h.2.2
theorem x0_6 {P0 P1 P2 P3 P4 P5 : Prop} {C : Prop} (h : (P0 ∧ P1 ∧ P2 ∧ P3 ∧ P4 ∧ P5)) (k : (P0 → P1 → P2 → P3 → P4 → P5 → C)) : C := k h.1 h.2.1 h.2.2.1 h.2.2.2.1 h.2.2.2.2.1 h.2.2.2.2.2
theorem x0_7 {P0 P1 P2 P3 P4 P5 P6 : Prop} {C : Prop} (h : (P0 ∧ P1 ∧ P2 ∧ P3 ∧ P4 ∧ P5 ∧ P6)) (k : (P0 → P1 → P2 → P3 → P4 → P5 → P6 → C)) : C := k h.1 h.2.1 h.2.2.1 h.2.2.2.1 h.2.2.2.2.1 h.2.2.2.2.2.1 h.2.2.2.2.2.2
theorem x1_1 {α0 : Type} {P0 : α0 → Prop} {C : Prop} (h : (∃ a0, P0 a0)) (k : (∀ a0, P0 a0 → C)) : C := h.elim fun a0 h0 => k a0 h0
theorem x1_2 {α0 : Type} {P0 P1 : α0 → Prop} {C : Prop} (h : (∃ a0, P0 a0 ∧ P1 a0)) (k : (∀ a0, P0 a0 → P1 a0 → C)) : C := h.elim fun a0 h0 => k a0 h0.1 h0.2
theorem x1_3 {α0 : Type} {P0 P1 P2 : α0 → Prop} {C : Prop} (h : (∃ a0, P0 a0 ∧ P1 a0 ∧ P2 a0)) (k : (∀ a0, P0 a0 → P1 a0 → P2 a0 → C)) : C := h.elim fun a0 h0 => k a0 h0.1 h0.2.1 h0.2.2
theorem x1_4 {α0 : Type} {P0 P1 P2 P3 : α0 → Prop} {C : Prop} (h : (∃ a0, P0 a0 ∧ P1 a0 ∧ P2 a0 ∧ P3 a0)) (k : (∀ a0, P0 a0 → P1 a0 → P2 a0 → P3 a0 → C)) : C := h.elim fun a0 h0 => k a0 h0.1 h0.2.1 h0.2.2.1 h0.2.2.2
theorem x2_1 {α0 α1 : Type} {P0 : α0 → α1 → Prop} {C : Prop} (h : (∃ a0 a1, P0 a0 a1)) (k : (∀ a0 a1, P0 a0 a1 → C)) : C := h.elim fun a0 h0 => h0.elim fun a1 h1 => k a0 a1 h1
theorem x2_2 {α0 α1 : Type} {P0 P1 : α0 → α1 → Prop} {C : Prop} (h : (∃ a0 a1, P0 a0 a1 ∧ P1 a0 a1)) (k : (∀ a0 a1, P0 a0 a1 → P1 a0 a1 → C)) : C := h.elim fun a0 h0 => h0.elim fun a1 h1 => k a0 a1 h1.1 h1.2
theorem x2_3 {α0 α1 : Type} {P0 P1 P2 : α0 → α1 → Prop} {C : Prop} (h : (∃ a0 a1, P0 a0 a1 ∧ P1 a0 a1 ∧ P2 a0 a1)) (k : (∀ a0 a1, P0 a0 a1 → P1 a0 a1 → P2 a0 a1 → C)) : C := h.elim fun a0 h0 => h0.elim fun a1 h1 => k a0 a1 h1.1 h1.2.1 h1.2.2
theorem x2_4 {α0 α1 : Type} {P0 P1 P2 P3 : α0 → α1 → Prop} {C : Prop} (h : (∃ a0 a1, P0 a0 a1 ∧ P1 a0 a1 ∧ P2 a0 a1 ∧ P3 a0 a1)) (k : (∀ a0 a1, P0 a0 a1 → P1 a0 a1 → P2 a0 a1 → P3 a0 a1 → C)) : C := h.elim fun a0 h0 => h0.elim fun a1 h1 => k a0 a1 h1.1 h1.2.1 h1.2.2.1 h1.2.2.2
theorem x2_7 {α0 α1 : Type} {P0 P1 P2 P3 P4 P5 P6 : α0 → α1 → Prop} {C : Prop} (h : (∃ a0 a1, P0 a0 a1 ∧ P1 a0 a1 ∧ P2 a0 a1 ∧ P3 a0 a1 ∧ P4 a0 a1 ∧ P5 a0 a1 ∧ P6 a0 a1)) (k : (∀ a0 a1, P0 a0 a1 → P1 a0 a1 → P2 a0 a1 → P3 a0 a1 → P4 a0 a1 → P5 a0 a1 → P6 a0 a1 → C)) : C := h.elim fun a0 h0 => h0.elim fun a1 h1 => k a0 a1 h1.1 h1.2.1 h1.2.2.1 h1.2.2.2.1 h1.2.2.2.2.1 h1.2.2.2.2.2.1 h1.2.2.2.2.2.2
theorem x3_2 {α0 α1 α2 : Type} {P0 P1 : α0 → α1 → α2 → Prop} {C : Prop} (h : (∃ a0 a1 a2, P0 a0 a1 a2 ∧ P1 a0 a1 a2)) (k : (∀ a0 a1 a2, P0 a0 a1 a2 → P1 a0 a1 a2 → C)) : C := h.elim fun a0 h0 => h0.elim fun a1 h1 => h1.elim fun a2 h2 => k a0 a1 a2 h2.1 h2.2
theorem x3_3 {α0 α1 α2 : Type} {P0 P1 P2 : α0 → α1 → α2 → Prop} {C : Prop} (h : (∃ a0 a1 a2, P0 a0 a1 a2 ∧ P1 a0 a1 a2 ∧ P2 a0 a1 a2)) (k : (∀ a0 a1 a2, P0 a0 a1 a2 → P1 a0 a1 a2 → P2 a0 a1 a2 → C)) : C := h.elim fun a0 h0 => h0.elim fun a1 h1 => h1.elim fun a2 h2 => k a0 a1 a2 h2.1 h2.2.1 h2.2.2
theorem x3_4 {α0 α1 α2 : Type} {P0 P1 P2 P3 : α0 → α1 → α2 → Prop} {C : Prop} (h : (∃ a0 a1 a2, P0 a0 a1 a2 ∧ P1 a0 a1 a2 ∧ P2 a0 a1 a2 ∧ P3 a0 a1 a2)) (k : (∀ a0 a1 a2, P0 a0 a1 a2 → P1 a0 a1 a2 → P2 a0 a1 a2 → P3 a0 a1 a2 → C)) : C := h.elim fun a0 h0 => h0.elim fun a1 h1 => h1.elim fun a2 h2 => k a0 a1 a2 h2.1 h2.2.1 h2.2.2.1 h2.2.2.2
theorem x3_6 {α0 α1 α2 : Type} {P0 P1 P2 P3 P4 P5 : α0 → α1 → α2 → Prop} {C : Prop} (h : (∃ a0 a1 a2, P0 a0 a1 a2 ∧ P1 a0 a1 a2 ∧ P2 a0 a1 a2 ∧ P3 a0 a1 a2 ∧ P4 a0 a1 a2 ∧ P5 a0 a1 a2)) (k : (∀ a0 a1 a2, P0 a0 a1 a2 → P1 a0 a1 a2 → P2 a0 a1 a2 → P3 a0 a1 a2 → P4 a0 a1 a2 → P5 a0 a1 a2 → C)) : C := h.elim fun a0 h0 => h0.elim fun a1 h1 => h1.elim fun a2 h2 => k a0 a1 a2 h2.1 h2.2.1 h2.2.2.1 h2.2.2.2.1 h2.2.2.2.2.1 h2.2.2.2.2.2
theorem x4_2 {α0 α1 α2 α3 : Type} {P0 P1 : α0 → α1 → α2 → α3 → Prop} {C : Prop} (h : (∃ a0 a1 a2 a3, P0 a0 a1 a2 a3 ∧ P1 a0 a1 a2 a3)) (k : (∀ a0 a1 a2 a3, P0 a0 a1 a2 a3 → P1 a0 a1 a2 a3 → C)) : C := h.elim fun a0 h0 => h0.elim fun a1 h1 => h1.elim fun a2 h2 => h2.elim fun a3 h3 => k a0 a1 a2 a3 h3.1 h3.2
theorem x4_4 {α0 α1 α2 α3 : Type} {P0 P1 P2 P3 : α0 → α1 → α2 → α3 → Prop} {C : Prop} (h : (∃ a0 a1 a2 a3, P0 a0 a1 a2 a3 ∧ P1 a0 a1 a2 a3 ∧ P2 a0 a1 a2 a3 ∧ P3 a0 a1 a2 a3)) (k : (∀ a0 a1 a2 a3, P0 a0 a1 a2 a3 → P1 a0 a1 a2 a3 → P2 a0 a1 a2 a3 → P3 a0 a1 a2 a3 → C)) : C := h.elim fun a0 h0 => h0.elim fun a1 h1 => h1.elim fun a2 h2 => h2.elim fun a3 h3 => k a0 a1 a2 a3 h3.1 h3.2.1 h3.2.2.1 h3.2.2.2
theorem x5_5 {α0 α1 α2 α3 α4 : Type} {P0 P1 P2 P3 P4 : α0 → α1 → α2 → α3 → α4 → Prop} {C : Prop} (h : (∃ a0 a1 a2 a3 a4, P0 a0 a1 a2 a3 a4 ∧ P1 a0 a1 a2 a3 a4 ∧ P2 a0 a1 a2 a3 a4 ∧ P3 a0 a1 a2 a3 a4 ∧ P4 a0 a1 a2 a3 a4)) (k : (∀ a0 a1 a2 a3 a4, P0 a0 a1 a2 a3 a4 → P1 a0 a1 a2 a3 a4 → P2 a0 a1 a2 a3 a4 → P3 a0 a1 a2 a3 a4 → P4 a0 a1 a2 a3 a4 → C)) : C := h.elim fun a0 h0 => h0.elim fun a1 h1 => h1.elim fun a2 h2 => h2.elim fun a3 h3 => h3.elim fun a4 h4 => k a0 a1 a2 a3 a4 h4.1 h4.2.1 h4.2.2.1 h4.2.2.2.1 h4.2.2.2.2
theorem x5_6 {α0 α1 α2 α3 α4 : Type} {P0 P1 P2 P3 P4 P5 : α0 → α1 → α2 → α3 → α4 → Prop} {C : Prop} (h : ∃ a b c d e, P0 a b c d e ∧ P1 a b c d e ∧ P2 a b c d e ∧ P3 a b c d e ∧ P4 a b c d e ∧ P5 a b c d e) (k : ∀ a b c d e, P0 a b c d e → P1 a b c d e → P2 a b c d e → P3 a b c d e → P4 a b c d e → P5 a b c d e → C) : C :=
  h.elim fun a h => h.elim fun b h => h.elim fun c h => h.elim fun d h => h.elim fun e h => k a b c d e h.1 h.2.1 h.2.2.1 h.2.2.2.1 h.2.2.2.2.1 h.2.2.2.2.2
theorem hide {P : Prop} (h : ∀ G : Prop, (P → G) → G) : P := h P id
theorem hide1 {α : Type} {P : α → Prop} (a : α) (h : ∀ G : α → Prop, (∀ a, P a → G a) → G a) : P a := h P fun _ x => x
theorem hide2 {α β : Type} {P : α → β → Prop} (a : α) (b : β) (h : ∀ G : α → β → Prop, (∀ a b, P a b → G a b) → G a b) : P a b := h P fun _ _ x => x
/-! values, states, worlds -/
/-- where the text's classes stand behind the top -/
inductive V where
  | none
  | bool (b : Bool)
  | int (i : Int)
  | str (x : Str)
  | lst (vs : List V)
  | tup (vs : List V)
  | obj (C : Addr) (fs : List (String × V))
  | self (C : Addr) (i : Nat)
  | ref (i : Nat)
  | rng (a b c : Int)
  | own (vs : List V)
  deriving Inhabited
inductive MO where
  | lst (vs : List V)
  | grow (vs : List V)
  | dict (kvs : List (Int × V))
  | fields (fs : List (String × V))
  | dead
noncomputable abbrev St := List MO
noncomputable abbrev Rho := String → Option V
noncomputable abbrev Den (α : Type) := Rho → St → Option (α × St)
noncomputable def Rho.set (x : String) (v : V) (ρ : Rho) : Rho := fun y => if y = x then some v else ρ y
structure Wd where
  fz : Addr → Option Obj
  φ : List Addr
noncomputable def LObj (T : String) (o : Obj) (items : Array Value) (n : Nat) : Prop := o = { cls := .type T, dict := none, data := .seq items n, slots := #[] }
theorem LObj.cls {T : String} {o : Obj} {items : Array Value} {n : Nat} (x : LObj T o items n) : o.cls = .type T := by subst x; rfl
theorem LObj.data {T : String} {o : Obj} {items : Array Value} {n : Nat} (x : LObj T o items n) : o.data = .seq items n := by subst x; rfl
mutual
inductive VRel (W : Wd) : V → Value → Prop
  | none : VRel W .none .none
  | bool (b : Bool) : VRel W (.bool b) (.bool b)
  | int (i : Int) (t : Tok) : VRel W (.int i) (.int i t)
  | str (x : Str) (t : Tok) : VRel W (.str x) (.str x t)
  | lst {a : Addr} {o : Obj} {items : Array Value} {n : Nat} {vs : List V} : W.fz a = some o → LObj "list" o items n → VsRel W vs items.toList → VRel W (.lst vs) (.ref a)
  | tup {a : Addr} {o : Obj} {items : Array Value} {n : Nat} {vs : List V} : W.fz a = some o → LObj "tuple" o items n → VsRel W vs items.toList → VRel W (.tup vs) (.ref a)
  | obj {x C dx : Addr} {es : List DictEntry} {n : Nat} {fs : List (String × V)} : C ∈ classList → W.fz x = some (instObj C dx) → W.fz dx = some (dictOf es n) → FsRel W fs es → VRel W (.obj C fs) (.ref x)
  | self {x C dx : Addr} {i : Nat} : C ∈ classList → W.fz x = some (instObj C dx) → W.φ[i]? = some dx → VRel W (.self C i) (.ref x)
  | ref {i : Nat} {a : Addr} : W.φ[i]? = some a → VRel W (.ref i) (.ref a)
  | rng {x : Addr} {a b c : Int} {t u v : Tok} : W.fz x = some { cls := .type "range", dict := none, data := .fields #[.int a t, .int b u, .int c v], slots := #[] } → VRel W (.rng a b c) (.ref x)
inductive VsRel (W : Wd) : List V → List Value → Prop
  | nil : VsRel W [] []
  | cons {v : V} {v' : Value} {vs : List V} {vs' : List Value} : VRel W v v' → VsRel W vs vs' → VsRel W (v :: vs) (v' :: vs')
inductive FsRel (W : Wd) : List (String × V) → List DictEntry → Prop
  | nil : FsRel W [] []
  | cons {x : String} {v : V} {h : Int} {t : Tok} {v' : Value} {fs : List (String × V)} {es : List DictEntry} : VRel W v v' → FsRel W fs es → FsRel W ((x, v) :: fs) (⟨h, .str (Str.ofString x) t, v'⟩ :: es)
end
theorem int_rel {W : Wd} {i : Int} {a' : Value} (r : VRel W (.int i) a') : ∃ t, a' = .int i t := by cases r; exact ⟨_, rfl⟩
theorem bool_rel {W : Wd} {b : Bool} {a' : Value} (r : VRel W (.bool b) a') : a' = .bool b := by cases r; rfl
theorem lst_rel {W : Wd} {vs : List V} {a' : Value} (r : VRel W (.lst vs) a') : ∃ a o items n, a' = .ref a ∧ W.fz a = some o ∧ LObj "list" o items n ∧ VsRel W vs items.toList := by
  cases r with | lst f cd rs => exact ⟨_, _, _, _, rfl, f, cd, rs⟩
theorem tup_rel {W : Wd} {vs : List V} {a' : Value} (r : VRel W (.tup vs) a') : ∃ a o items n, a' = .ref a ∧ W.fz a = some o ∧ LObj "tuple" o items n ∧ VsRel W vs items.toList := by
  cases r with | tup f cd rs => exact ⟨_, _, _, _, rfl, f, cd, rs⟩
theorem ref_rel {W : Wd} {i : Nat} {v' : Value} (r : VRel W (.ref i) v') : ∃ a, v' = .ref a ∧ W.φ[i]? = some a := by cases r with | ref h => exact ⟨_, rfl, h⟩
theorem vs_one {W : Wd} {v : V} {l : List Value} (r : VsRel W [v] l) : ∃ a, l = [a] ∧ VRel W v a := by
  cases r with | cons a r => cases r; exact ⟨_, rfl, a⟩
theorem vs_two {W : Wd} {v u : V} {l : List Value} (r : VsRel W [v, u] l) : ∃ a b, l = [a, b] ∧ VRel W v a ∧ VRel W u b := by
  cases r with | cons a r => obtain ⟨b, rfl, hb⟩ := vs_one r; exact ⟨_, _, rfl, a, hb⟩
theorem vs_three {W : Wd} {v u w : V} {l : List Value} (r : VsRel W [v, u, w] l) : ∃ a b d, l = [a, b, d] ∧ VRel W v a ∧ VRel W u b ∧ VRel W w d := by
  cases r with | cons a r => obtain ⟨b, d, rfl, hb, hd⟩ := vs_two r; exact ⟨_, _, _, rfl, a, hb, hd⟩
/-- one world is grown to another: what is frozen stays, the addresses of the mutable things stay -/
structure Wd.Le (W W' : Wd) : Prop where
  fz : ∀ (b : Addr) (o : Obj), W.fz b = some o → W'.fz b = some o
  φ : ∀ (i : Nat) (a : Addr), W.φ[i]? = some a → W'.φ[i]? = some a
theorem Wd.Le.refl (W : Wd) : W.Le W := ⟨fun _ _ e => e, fun _ _ e => e⟩
theorem Wd.Le.trans {W W' W'' : Wd} (a : W.Le W') (b : W'.Le W'') : W.Le W'' := ⟨fun x o e => b.fz x o (a.fz x o e), fun i x e => b.φ i x (a.φ i x e)⟩
mutual
theorem VRel.mono {W W' : Wd} (l : W.Le W') : ∀ {v : V} {v' : Value}, VRel W v v' → VRel W' v v'
  | _, _, .none => .none
  | _, _, .bool b => .bool b
  | _, _, .int i t => .int i t
  | _, _, .str x t => .str x t
  | _, _, .lst a b d => .lst (l.fz _ _ a) b (VsRel.mono l d)
  | _, _, .tup a b d => .tup (l.fz _ _ a) b (VsRel.mono l d)
  | _, _, .obj k a b c => .obj k (l.fz _ _ a) (l.fz _ _ b) (FsRel.mono l c)
  | _, _, .self k a b => .self k (l.fz _ _ a) (l.φ _ _ b)
  | _, _, .ref a => .ref (l.φ _ _ a)
  | _, _, .rng a => .rng (l.fz _ _ a)
theorem VsRel.mono {W W' : Wd} (l : W.Le W') : ∀ {v : List V} {v' : List Value}, VsRel W v v' → VsRel W' v v'
  | _, _, .nil => .nil
  | _, _, .cons a b => .cons (VRel.mono l a) (VsRel.mono l b)
theorem FsRel.mono {W W' : Wd} (l : W.Le W') : ∀ {v : List (String × V)} {v' : List DictEntry}, FsRel W v v' → FsRel W' v v'
  | _, _, .nil => .nil
  | _, _, .cons a b => .cons (VRel.mono l a) (FsRel.mono l b)
end
/-- entries of a dict with int keys -/
inductive DsRel (W : Wd) : List (Int × V) → List DictEntry → Prop
  | nil : DsRel W [] []
  | cons {k : Int} {v : V} {h : Int} {t : Tok} {v' : Value} {fs : List (Int × V)} {es : List DictEntry} : h = hashInt k → VRel W v v' → DsRel W fs es → DsRel W ((k, v) :: fs) (⟨h, .int k t, v'⟩ :: es)
inductive MRel (W : Wd) : MO → Obj → Prop
  | lst {o : Obj} {items : Array Value} {n : Nat} {vs : List V} : o.cls = .type "list" → o.data = .seq items n → VsRel W vs items.toList → MRel W (.lst vs) o
  | grow {o : Obj} {items : Array Value} {n : Nat} {vs : List V} : LObj "list" o items n → VsRel W vs items.toList → MRel W (.grow vs) o
  | dict {o : Obj} {es : Array DictEntry} {n : Nat} {kvs : List (Int × V)} : (kvs.map (·.1)).Nodup → o.ExactDict → o.data = .dict es n → DsRel W kvs es.toList → MRel W (.dict kvs) o
  | fields {es : List DictEntry} {n : Nat} {fs : List (String × V)} : FsRel W fs es → MRel W (.fields fs) (dictOf es n)
  | dead {o : Obj} : MRel W .dead o
theorem DsRel.mono {W W' : Wd} (l : W.Le W') {v : List (Int × V)} {v' : List DictEntry} (x : DsRel W v v') : DsRel W' v v' := by
  induction x with
  | nil => exact .nil
  | cons h a _ ih => exact .cons h (a.mono l) ih
theorem MRel.mono {W W' : Wd} (l : W.Le W') {m : MO} {o : Obj} (x : MRel W m o) : MRel W' m o := by
  cases x with
  | lst a b c => exact .lst a b (c.mono l)
  | grow a c => exact .grow a (c.mono l)
  | dict n b c a => exact .dict n b c (a.mono l)
  | fields a => exact .fields (a.mono l)
  | dead => exact .dead
theorem mlst_rel {W : Wd} {vs : List V} {o : Obj} (m : MRel W (.lst vs) o) : ∃ items n, o.cls = .type "list" ∧ o.data = .seq items n ∧ VsRel W vs items.toList := by cases m with | lst a b c => exact ⟨_, _, a, b, c⟩
theorem mgrow_rel {W : Wd} {vs : List V} {o : Obj} (m : MRel W (.grow vs) o) : ∃ items n, LObj "list" o items n ∧ VsRel W vs items.toList := by cases m with | grow a c => exact ⟨_, _, a, c⟩
/-- the state stands in the heap -/
structure Inv (h₀ : Heap) (W : Wd) (st : St) (h : Heap) : Prop where
  base : ∀ (b : Addr) (o : Obj), h₀.get? b = some o → W.fz b = some o
  froz : ∀ (b : Addr) (o : Obj), W.fz b = some o → h.get? b = some o
  len : W.φ.length = st.length
  nodup : W.φ.Nodup
  free : ∀ (i : Nat) (a : Addr) (m : MO), W.φ[i]? = some a → st[i]? = some m → m ≠ .dead → W.fz a = none
  live : ∀ (i : Nat) (a : Addr) (m : MO), W.φ[i]? = some a → st[i]? = some m → ∃ o, h.get? a = some o ∧ MRel W m o
/-- from one moment to a later one -/
structure StepG (W : Wd) (g : Addr → Option Obj) (W' : Wd) (h' : Heap) : Prop where
  keep : ∀ (b : Addr) (o : Obj), g b = some o → b ∉ W.φ → h'.get? b = some o
  alive : ∀ (b : Addr) (o : Obj), g b = some o → ∃ o', h'.get? b = some o'
  fz : ∀ (b : Addr) (o : Obj), W.fz b = some o → W'.fz b = some o
  old : ∀ (b : Addr) (o : Obj), g b = some o → b ∉ W.φ → W'.fz b = W.fz b
  pre : ∃ r, W'.φ = W.φ ++ r ∧ ∀ a ∈ r, g a = none
noncomputable abbrev Step (W : Wd) (h : Heap) (W' : Wd) (h' : Heap) : Prop := StepG W h.get? W' h'
theorem StepG.le {W W' : Wd} {g : Addr → Option Obj} {h' : Heap} (x : StepG W g W' h') : W.Le W' := by
  obtain ⟨r, e, _⟩ := x.pre
  refine ⟨x.fz, fun i a q => ?_⟩
  rw [e, List.getElem?_append_left]
  · exact q
  · exact (List.getElem?_eq_some_iff.mp q).1
theorem Step.refl (W : Wd) (h : Heap) : Step W h W h := ⟨fun _ _ e _ => e, fun _ o e => ⟨o, e⟩, fun _ _ e => e, fun _ _ _ _ => rfl, [], by simp, by simp⟩
theorem StepG.notin {W W' : Wd} {g : Addr → Option Obj} {h' : Heap} (x : StepG W g W' h') {b : Addr} {o : Obj} (hb : g b = some o) (hn : b ∉ W.φ) : b ∉ W'.φ := by
  obtain ⟨r, e, hr⟩ := x.pre
  rw [e, List.mem_append, not_or]
  exact ⟨hn, fun m => by rw [hr b m] at hb; cases hb⟩
theorem StepG.trans {W W' W'' : Wd} {g : Addr → Option Obj} {h' h'' : Heap} (x : StepG W g W' h') (y : Step W' h' W'' h'') : StepG W g W'' h'' := by
  obtain ⟨r, e, hr⟩ := x.pre
  obtain ⟨r', e', hr'⟩ := y.pre
  refine ⟨fun b o q n => y.keep b o (x.keep b o q n) (x.notin q n), fun b o q => let ⟨o', q'⟩ := x.alive b o q; y.alive b o' q', fun b o q => y.fz b o (x.fz b o q), fun b o hb n => ?_, r ++ r', by rw [e', e, List.append_assoc], fun a ha => ?_⟩
  · rw [y.old b o (x.keep b o hb n) (x.notin hb n), x.old b o hb n]
  · rcases List.mem_append.mp ha with q | q
    · exact hr a q
    · cases z : g a with
      | none => rfl
      | some o => obtain ⟨o', z'⟩ := x.alive a o z; rw [hr' a q] at z'; cases z'
theorem heap_out (h : Heap) : h.get? h.objs.size = none := by
  cases z : h.get? h.objs.size with
  | none => rfl
  | some o => exact absurd (Heap.lt_size z) (Nat.lt_irrefl _)
theorem Inv.lt {h₀ : Heap} {W : Wd} {st : St} {h : Heap} (x : Inv h₀ W st h) {a : Addr} (ha : a ∈ W.φ) : a < h.objs.size := by
  obtain ⟨i, hi, rfl⟩ := List.mem_iff_getElem.mp ha
  have hs : i < st.length := x.len ▸ hi
  obtain ⟨o, e, _⟩ := x.live i W.φ[i] st[i] (List.getElem?_eq_getElem hi) (List.getElem?_eq_getElem hs)
  exact Heap.lt_size e
theorem Inv.fzlt {h₀ : Heap} {W : Wd} {st : St} {h : Heap} (x : Inv h₀ W st h) {a : Addr} {o : Obj} (ha : W.fz a = some o) : a < h.objs.size := Heap.lt_size (x.froz a o ha)
/-- the heap grew, nothing turned -/
theorem Inv.grow {h₀ : Heap} {W : Wd} {st : St} {h h' : Heap} (x : Inv h₀ W st h) (k : ∀ (b : Addr) (o : Obj), h.get? b = some o → h'.get? b = some o) : Inv h₀ W st h' :=
  ⟨x.base, fun b o e => k b o (x.froz b o e), x.len, x.nodup, x.free, fun i a m e q => let ⟨o, r, t⟩ := x.live i a m e q; ⟨o, k a o r, t⟩⟩
theorem Step.grow {W : Wd} {h h' : Heap} (k : ∀ (b : Addr) (o : Obj), h.get? b = some o → h'.get? b = some o) : Step W h W h' :=
  ⟨fun b o e _ => k b o e, fun b o e => ⟨o, k b o e⟩, fun _ _ e => e, fun _ _ _ _ => rfl, [], by simp, by simp⟩
noncomputable def Wd.freeze (W : Wd) (a : Addr) (o : Obj) : Wd := ⟨fun b => if b = a then some o else W.fz b, W.φ⟩
theorem Wd.freeze_self (W : Wd) (a : Addr) (o : Obj) : (W.freeze a o).fz a = some o := if_pos rfl
theorem Inv.push {h₀ : Heap} {W : Wd} {st : St} {h : Heap} (x : Inv h₀ W st h) (o : Obj) (ho : o.isFreed = false) :
    Inv h₀ (W.freeze h.objs.size o) st (h.push o) ∧ Step W h (W.freeze h.objs.size o) (h.push o) := by
  have ne : ∀ (b : Addr) (p : Obj), W.fz b = some p → b ≠ h.objs.size := fun b p e => Nat.ne_of_lt (x.fzlt e)
  have le : ∀ (b : Addr) (p : Obj), W.fz b = some p → (W.freeze h.objs.size o).fz b = some p := fun b p e => by
    show (if b = h.objs.size then some o else W.fz b) = some p
    rw [if_neg (ne b p e)]; exact e
  have L : W.Le (W.freeze h.objs.size o) := ⟨le, fun _ _ e => e⟩
  refine ⟨⟨fun b p e => le b p (x.base b p e), fun b p e => ?_, x.len, x.nodup, fun i a m e q nd => ?_, fun i a m e q => ?_⟩, ⟨fun b p e _ => Heap.get?_push_of_some _ e, fun b p e => ⟨p, Heap.get?_push_of_some _ e⟩, le, fun b p hb _ => if_neg (Nat.ne_of_lt (Heap.lt_size hb)), [], by simp [Wd.freeze], by simp⟩⟩
  · change (if b = h.objs.size then some o else W.fz b) = some p at e
    split at e
    · rename_i q; subst q; cases e; exact Heap.get?_push_size _ ho
    · exact Heap.get?_push_of_some _ (x.froz b p e)
  · show (if a = h.objs.size then some o else W.fz a) = none
    rw [if_neg (Nat.ne_of_lt (x.lt (List.mem_of_getElem? e)))]; exact x.free i a m e q nd
  · obtain ⟨p, r, t⟩ := x.live i a m e q
    exact ⟨p, Heap.get?_push_of_some _ r, t.mono L⟩
/-- a new mutable thing -/
noncomputable def Wd.add (W : Wd) (a : Addr) : Wd := ⟨W.fz, W.φ ++ [a]⟩
theorem Inv.alloc {h₀ : Heap} {W : Wd} {st : St} {h : Heap} (x : Inv h₀ W st h) (o : Obj) (m : MO) (ho : o.isFreed = false) (r : MRel (W.add h.objs.size) m o) :
    Inv h₀ (W.add h.objs.size) (st ++ [m]) (h.push o) ∧ Step W h (W.add h.objs.size) (h.push o) := by
  have L : W.Le (W.add h.objs.size) := ⟨fun _ _ e => e, fun i a e => by
    show (W.φ ++ [h.objs.size])[i]? = some a
    rw [List.getElem?_append_left (List.getElem?_eq_some_iff.mp e).1]; exact e⟩
  refine ⟨⟨x.base, fun b p e => Heap.get?_push_of_some _ (x.froz b p e), by simp [Wd.add, x.len], ?_, fun i a m' e q nd => ?_, fun i a m' e q => ?_⟩, ⟨fun b p e _ => Heap.get?_push_of_some _ e, fun b p e => ⟨p, Heap.get?_push_of_some _ e⟩, fun _ _ e => e, fun _ _ _ _ => rfl, [h.objs.size], rfl, fun a ha => by rw [List.mem_singleton.mp ha]; exact heap_out h⟩⟩
  · show (W.φ ++ [h.objs.size]).Nodup
    rw [List.nodup_append]
    refine ⟨x.nodup, by simp, fun a ha b hb => ?_⟩
    rw [List.mem_singleton.mp hb]; exact Nat.ne_of_lt (x.lt ha)
  · change (W.φ ++ [h.objs.size])[i]? = some a at e
    show W.fz a = none
    by_cases hi : i < W.φ.length
    · rw [List.getElem?_append_left hi] at e
      rw [List.getElem?_append_left (x.len ▸ hi)] at q
      exact x.free i a m' e q nd
    · have : a = h.objs.size := by
        have := (List.getElem?_eq_some_iff.mp e).1
        simp at this
        have hi' : i = W.φ.length := by lia
        subst hi'
        rw [List.getElem?_append_right (Nat.le_refl _)] at e
        simp at e; exact e.symm
      subst this
      cases e : W.fz h.objs.size with
      | none => rfl
      | some p => exact absurd (x.fzlt e) (Nat.lt_irrefl _)
  · change (W.φ ++ [h.objs.size])[i]? = some a at e
    by_cases hi : i < W.φ.length
    · rw [List.getElem?_append_left hi] at e
      rw [List.getElem?_append_left (x.len ▸ hi)] at q
      obtain ⟨p, r', t⟩ := x.live i a m' e q
      exact ⟨p, Heap.get?_push_of_some _ r', t.mono L⟩
    · have hi' : i = W.φ.length := by
        have := (List.getElem?_eq_some_iff.mp e).1
        simp at this; lia
      subst hi'
      rw [List.getElem?_append_right (Nat.le_refl _)] at e
      rw [x.len, List.getElem?_append_right (Nat.le_refl _)] at q
      simp at e q
      subst e; subst q
      exact ⟨o, Heap.get?_push_size _ ho, r⟩
structure Same (s s' : Shared) : Prop where
  gens : s'.gens = s.gens
  os : s'.os = s.os
theorem Same.refl (s : Shared) : Same s s := ⟨rfl, rfl⟩
theorem Same.trans {s s' s'' : Shared} (x : Same s s') (y : Same s' s'') : Same s s'' := ⟨y.gens.trans x.gens, y.os.trans x.os⟩
/-- what stands at the end -/
structure End1 (h₀ : Heap) (W : Wd) (s : Shared) (st' : St) (P : Prop) (s' : Shared) (W' : Wd) : Prop where
  inv : Inv h₀ W' st' s'.heap
  step : Step W s.heap W' s'.heap
  same : Same s s'
  rel : P
/-- a tree comes to an end, by no exception, in the state st' -/
noncomputable def Does {α : Type} (M : Model) (h₀ : Heap) (A : Around) (t : Sem α) (W : Wd) (s : Shared) (st' : St) (R : Wd → α → Prop) : Prop :=
  wpAny M A t (fun a s' => ∃ W', End1 h₀ W s st' (R W' a) s' W') (fun _ _ => False) s
theorem Does.to {α : Type} {M : Model} {h₀ : Heap} {A : Around} {t : Sem α} {W : Wd} {s : Shared} {st' : St} {R : Wd → α → Prop} {Q : α → Shared → Prop} {E : Value → Shared → Prop} (d : Does M h₀ A t W s st' R)
    (k : ∀ W' a s', Inv h₀ W' st' s'.heap → Step W s.heap W' s'.heap → Same s s' → R W' a → Q a s') : wpAny M A t Q E s :=
  wpAny_mono d (fun a s' ⟨W', i, x, y, r⟩ => k W' a s' i x y r) fun _ _ f => f.elim
structure Room (A : Around) (lv : Nat) : Prop where
  handled : A.handled = none
  depth : A.depth + 10 * lv < 990
  units : A.units + 50 * lv < 9600
theorem Room.less {A : Around} {a b : Nat} (r : Room A b) (h : a ≤ b) : Room A a := ⟨r.handled, by have := r.depth; lia, by have := r.units; lia⟩
theorem Room.in1 {A : Around} {a b : Nat} (r : Room A b) (h : a + 1 ≤ b) : Room A.in1 a := ⟨r.handled, by have := r.depth; show A.depth + _ < _; lia, by have := r.units; show A.units + 1 + _ < _; lia⟩
theorem Room.deeper {A : Around} {a b : Nat} {env : Env} (r : Room A b) (h : a + 1 ≤ b) : Room (A.deeper env) a := ⟨r.handled, by have := r.depth; show A.depth + 1 + _ < _; lia, by have := r.units; show A.units + 3 + _ < _; lia⟩
theorem Room.limit {A : Around} {a : Nat} (r : Room A a) : A.depth < recursionLimit := by have := r.depth; show A.depth < 1000; lia
theorem Room.cline {A : Around} {a : Nat} (r : Room A a) : A.units + 300 < cLine := by have := r.units; show A.units + 300 < 9900; lia
/-! names -/
noncomputable def VarAt (env : Env) (h : Heap) (x : Str) (v : Value) : Prop :=
  (env.kindOf x = some .local ∧ ∃ m, h.Ns env.locals m ∧ m x = some v) ∨ ((env.kindOf x = some .cell ∨ env.kindOf x = some .free) ∧ ∃ c, env.cells.lookup x = some c ∧ h.IsCell c (some v))
structure EnvOk (sc : Scope) (env : Env) (W : Wd) (ρ : Rho) (h : Heap) : Prop where
  kind : env.scope.kind = .function
  globals : env.globals = mainGlobals
  builtins : env.builtins = builtinsNs
  glob : ∀ x, sc.names.lookup x = some .globalImplicit → env.kindOf x = some .globalImplicit
  fr : ∀ x, sc.names.lookup x = some .cell ∨ sc.names.lookup x = some .free → (env.kindOf x = some .cell ∨ env.kindOf x = some .free) ∧ ∃ c, env.cells.lookup x = some c
  locals : env.locals ∉ W.φ ∧ ∃ o, h.get? env.locals = some o
  cells : ∀ x c, env.cells.lookup x = some c → c ∉ W.φ ∧ ∃ o, h.get? c = some o
  vars : ∀ (x : String) (v : V), ρ x = some v → (∀ vs, v ≠ .own vs) → ∃ v', VarAt env h (Str.ofString x) v' ∧ VRel W v v'
theorem VarAt.step {env : Env} {W W' : Wd} {h h' : Heap} {x : Str} {v : Value} (y : VarAt env h x v) (t : Step W h W' h') (hl : env.locals ∉ W.φ) (hc : ∀ x c, env.cells.lookup x = some c → c ∉ W.φ) : VarAt env h' x v := by
  rcases y with ⟨k, m, ⟨o, es, ep, e, r⟩, q⟩ | ⟨k, c, e, o, r, d⟩
  · exact .inl ⟨k, m, ⟨o, es, ep, t.keep _ _ e hl, r⟩, q⟩
  · exact .inr ⟨k, c, e, o, t.keep _ _ r (hc x c e), d⟩
theorem EnvOk.step {sc : Scope} {env : Env} {W W' : Wd} {ρ : Rho} {h h' : Heap} (x : EnvOk sc env W ρ h) (t : Step W h W' h') : EnvOk sc env W' ρ h' :=
  ⟨x.kind, x.globals, x.builtins, x.glob, x.fr, let ⟨n, o, e⟩ := x.locals; ⟨t.notin e n, o, t.keep _ _ e n⟩,
    fun y c e => let ⟨n, o, q⟩ := x.cells y c e; ⟨t.notin q n, o, t.keep _ _ q n⟩,
    fun y v e n => let ⟨v', a, b⟩ := x.vars y v e n; ⟨v', a.step t x.locals.1 (fun z c q => (x.cells z c q).1), b.mono t.le⟩⟩
end Mine
namespace Mine
structure Cx where
  prog : Program
  w : World
  h₀ : Heap
  K : Frag
  inK : K.In h₀
  sys : ∃ o, h₀.get? sysModules = some o
  nolimit : h₀.NoLimit
noncomputable abbrev Cx.M (c : Cx) : Model := model c.prog c.w
noncomputable def ESound (c : Cx) (lv : Nat) (sc : Scope) (e : Expr) (f : Den V) : Prop :=
  ∀ (A : Around) (env : Env) (s : Shared) (W : Wd) (ρ : Rho) (st st' : St) (v : V), Room A lv → EnvOk sc env W ρ s.heap → Inv c.h₀ W st s.heap → f ρ st = some (v, st') →
    Does c.M c.h₀ A (eval e env) W s st' (fun W' v' => VRel W' v v')
noncomputable def EsSound (c : Cx) (lv : Nat) (sc : Scope) (es : List Expr) (f : Den (List V)) : Prop :=
  ∀ (A : Around) (env : Env) (s : Shared) (W : Wd) (ρ : Rho) (st st' : St) (v : List V) (pos : Pos), Room A lv → EnvOk sc env W ρ s.heap → Inv c.h₀ W st s.heap → f ρ st = some (v, st') →
    Does c.M c.h₀ A (spliced (backTo pos (starEach es env))) W s st' (fun W' v' => VsRel W' v v')
noncomputable def TSound (c : Cx) (lv : Nat) (sc : Scope) (e : Expr) (f : Den Bool) : Prop :=
  ∀ (A : Around) (env : Env) (s : Shared) (W : Wd) (ρ : Rho) (st st' : St) (v : Bool), Room A lv → EnvOk sc env W ρ s.heap → Inv c.h₀ W st s.heap → f ρ st = some (v, st') →
    Does c.M c.h₀ A (isTrue e env (eval e env)) W s st' (fun _ v' => v' = v)
theorem Does.done {α : Type} {M : Model} {h₀ : Heap} {A : Around} {t : Sem α} {W : Wd} {s : Shared} {st' : St} {R : Wd → α → Prop}
    (h : wpAny M A t (fun a s' => ∃ W', End1 h₀ W s st' (R W' a) s' W') (fun _ _ => False) s) : Does M h₀ A t W s st' R := h
/-- the end of a step that makes nothing but tokens -/
theorem endHere {α : Type} {h₀ : Heap} {W : Wd} {s : Shared} {st : St} {R : Wd → α → Prop} {a : α} (i : Inv h₀ W st s.heap) (r : R W a) (tk : Nat) :
    ∃ W', End1 h₀ W s st (R W' a) { s with toks := tk } W' :=
  ⟨W, i, Step.refl _ _, ⟨rfl, rfl⟩, r⟩
theorem endHere0 {α : Type} {h₀ : Heap} {W : Wd} {s : Shared} {st : St} {R : Wd → α → Prop} {a : α} (i : Inv h₀ W st s.heap) (r : R W a) :
    ∃ W', End1 h₀ W s st (R W' a) s W' := ⟨W, i, Step.refl _ _, ⟨rfl, rfl⟩, r⟩
/-- joining two -/
theorem endJoin {α : Type} {h₀ : Heap} {W W₁ : Wd} {s s₁ s' : Shared} {st : St} {R : Wd → α → Prop} {a : α} (y : Step W s.heap W₁ s₁.heap) (z : Same s s₁)
    (h : ∃ W', End1 h₀ W₁ s₁ st (R W' a) s' W') : ∃ W', End1 h₀ W s st (R W' a) s' W' :=
  let ⟨W', i, y', z', r⟩ := h; ⟨W', i, y.trans y', z.trans z', r⟩
/-- sequencing -/
theorem Does.chain {α β : Type} {M : Model} {h₀ : Heap} {A A' : Around} {t : Sem α} {u : α → Sem β} {W : Wd} {s : Shared} {st st' : St} {R : Wd → α → Prop} {R' : Wd → β → Prop} (d : Does M h₀ A t W s st R)
    (k : ∀ W₁ a s₁, Inv h₀ W₁ st s₁.heap → Step W s.heap W₁ s₁.heap → R W₁ a → Does M h₀ A' (u a) W₁ s₁ st' R') :
    wpAny M A t (fun a s₁ => wpAny M A' (u a) (fun b s' => ∃ W', End1 h₀ W s st' (R' W' b) s' W') (fun _ _ => False) s₁) (fun _ _ => False) s :=
  d.to fun W₁ a s₁ i y z r => (k W₁ a s₁ i y r).to fun W₂ b s₂ i₂ y₂ z₂ r₂ => ⟨W₂, i₂, y.trans y₂, z.trans z₂, r₂⟩
/-! names and constants -/
noncomputable def dLoc (x : String) : Den V := fun ρ st => match ρ x with
  | some (.own _) => none
  | some v => some (v, st)
  | none => none
noncomputable def dVal (v : V) : Den V := fun _ st => some (v, st)
section
variable {c : Cx} {lv : Nat} {sc : Scope}
theorem e_loc {x : String} {pos : Pos} (hd : (Str.ofString x == ("__debug__" : Str)) = false) (hn : (Str.ofString x == ("__classdict__" : Str)) = false) :
    ESound c lv sc (.Name (Str.ofString x) pos) (dLoc x) := by
  intro A env s W ρ st st' v rm eo iv e
  have hv : ρ x = some v ∧ st = st' ∧ ∀ vs, v ≠ .own vs := by
    unfold dLoc at e
    split at e
    · cases e
    · rename_i u hn hu; cases e; exact ⟨hu, rfl, fun vs q => hn vs q⟩
    · cases e
  obtain ⟨hv, rfl, no⟩ := hv
  obtain ⟨v', a, b⟩ := eo.vars x v hv no
  refine wpAny_Name ?_ hd
  rcases a with ⟨k, m, n, q⟩ | ⟨k | k, cc, e, o⟩
  · exact wpAny_loadName_local eo.kind k n q (endHere0 iv b)
  · exact wpAny_loadName_cell eo.kind k e o (endHere0 iv b)
  · exact wpAny_loadName_free eo.kind k e o (endHere0 iv b) hn
/-- a global of the text -/
noncomputable def GlobIs (c : Cx) (x : Str) (v : V) : Prop := ∃ mg v', c.h₀.Ns mainGlobals mg ∧ mg x = some v' ∧ ∀ W : Wd, (∀ (b : Addr) (o : Obj), c.h₀.get? b = some o → W.fz b = some o) → VRel W v v'
theorem e_glob {x : Str} {pos : Pos} {v : V} (g : GlobIs c x v) (hx : sc.names.lookup x = some .globalImplicit) (hd : (x == ("__debug__" : Str)) = false) :
    ESound c lv sc (.Name x pos) (dVal v) := by
  intro A env s W ρ st st' v₂ rm eo iv e
  cases e
  ((first | refine x2_3 g fun mg v' n q r => ?_ | obtain ⟨mg, v', n, q, r⟩ := g); try clear g)
  exact Name_function_global eo.kind (eo.glob x hx) (loadGlobal_global (by rw [eo.globals]; exact n.keeps fun b o e => iv.froz b o (iv.base b o e)) q (endHere0 iv (r W iv.base))) hd
theorem e_int {i : Int} {k : Nat} {pos : Pos} : ESound c lv sc (.Constant (.int i) k pos) (dVal (.int i)) := by
  intro A env s W ρ st st' v rm eo iv e
  cases e
  exact wpAny_Constant_int (endHere iv (.int i _) _)
theorem e_none {k : Nat} {pos : Pos} : ESound c lv sc (.Constant .none k pos) (dVal .none) := by
  intro A env s W ρ st st' v rm eo iv e
  cases e
  exact wpAny_Constant_none (endHere0 iv .none)
theorem e_bool {b : Bool} {k : Nat} {pos : Pos} : ESound c lv sc (.Constant (.bool b) k pos) (dVal (.bool b)) := by
  intro A env s W ρ st st' v rm eo iv e
  cases e
  exact wpAny_Constant_bool (endHere0 iv (.bool b))
theorem e_str {x : Str} {k : Nat} {pos : Pos} : ESound c lv sc (.Constant (.str x) k pos) (dVal (.str x)) := by
  intro A env s W ρ st st' v rm eo iv e
  cases e
  exact wpAny_Constant_str (endHere iv (.str x _) _)
/-! operators -/
noncomputable def dBin (o : V → V → Option V) (a b : Den V) : Den V := fun ρ st => (a ρ st).bind fun p => (b ρ p.2).bind fun q => (o p.1 q.1).map fun v => (v, q.2)
noncomputable def dUn (o : V → Option V) (a : Den V) : Den V := fun ρ st => (a ρ st).bind fun p => (o p.1).map fun v => (v, p.2)
noncomputable def BinOk (c : Cx) (t : Value → Value → Sem Value) (o : V → V → Option V) : Prop :=
  ∀ (A : Around) (s : Shared) (W : Wd) (st : St) (a b r : V) (a' b' : Value), Room A 0 → Inv c.h₀ W st s.heap → VRel W a a' → VRel W b b' → o a b = some r → Does c.M c.h₀ A (t a' b') W s st (fun W' v' => VRel W' r v')
theorem bind2 {α β γ : Type} {x : Option α} {f : α → Option β} {r : β} (h : x.bind f = some r) : ∃ a, x = some a ∧ f a = some r := Option.bind_eq_some_iff.mp h
theorem e_bin {op : Operator} {o : V → V → Option V} (ok : BinOk c (binaryOp op) o) {l r : Expr} {pos : Pos} {a b : Den V} (ha : ESound c lv sc l a) (hb : ESound c lv sc r b) :
    ESound c lv sc (.BinOp l op r pos) (dBin o a b) := by
  intro A env s W ρ st st' v rm eo iv e
  refine bindP e fun v₁ st₁ e₁ e => ?_
  refine bindP e fun v₂ st₂ e₂ e => ?_
  refine mapO e fun v₃ e₃ e => ?_
  cases e
  refine wpAny_BinOp ((ha A env s W ρ st st₁ v₁ rm eo iv e₁).to fun W₁ a₁ s₁ i₁ y₁ z₁ r₁ => ?_)
  refine (hb A env s₁ W₁ ρ st₁ st₂ v₂ rm (eo.step y₁) i₁ e₂).to fun W₂ a₂ s₂ i₂ y₂ z₂ r₂ => ?_
  exact (ok A s₂ W₂ st₂ v₁ v₂ v a₁ a₂ (rm.less (Nat.zero_le _)) i₂ (r₁.mono y₂.le) r₂ e₃).to fun W₃ a₃ s₃ i₃ y₃ z₃ r₃ => ⟨W₃, i₃, (y₁.trans y₂).trans y₃, (z₁.trans z₂).trans z₃, r₃⟩
noncomputable def oAdd : V → V → Option V
  | .int a, .int b => some (.int (a + b))
  | _, _ => none
noncomputable def oSub : V → V → Option V
  | .int a, .int b => some (.int (a - b))
  | _, _ => none
noncomputable def oMul : V → V → Option V
  | .int a, .int b => if b.natAbs < 2 ^ 64 ∨ a.natAbs < 2 ^ 64 then some (.int (a * b)) else none
  | _, _ => none
noncomputable def oDiv : V → V → Option V
  | .int a, .int b => if b ≠ 0 ∧ b.natAbs < 1073741824 then some (.int (a.fdiv b)) else none
  | _, _ => none
noncomputable def oMod : V → V → Option V
  | .int a, .int b => if b ≠ 0 then some (.int (a.fmod b)) else none
  | _, _ => none
noncomputable def oShl : V → V → Option V
  | .int a, .int b => if 0 ≤ b ∧ b ≤ 1000000 ∧ a.natAbs < 2 ^ 64 then some (.int (a * 2 ^ b.toNat)) else none
  | _, _ => none
noncomputable def oShr : V → V → Option V
  | .int a, .int b => if 0 ≤ b then some (.int (a.fdiv (2 ^ b.toNat))) else none
  | _, _ => none
noncomputable def oPow : V → V → Option V
  | .int a, .int b => if 0 ≤ b ∧ b ≤ 1000000 ∧ a.natAbs < 2 ^ 64 then some (.int (a ^ b.toNat)) else none
  | _, _ => none
theorem mulOk {a b : Int} (h : a.natAbs < 2 ^ 64 ∨ b.natAbs < 2 ^ 64) : IntMulOk a b := by
  rcases h with h | h
  · exact .of_left (intBits_le_64 (by lia) (by lia))
  · exact .of_right (intBits_le_64 (by lia) (by lia))
theorem i2_inv {f : Int → Int → Option V} {a b r : V} (e : (match a, b with | .int i, .int j => f i j | _, _ => none) = some r) : ∃ i j, a = .int i ∧ b = .int j ∧ f i j = some r := by
  split at e
  · exact ⟨_, _, rfl, rfl, e⟩
  · cases e
theorem ok_i2 {t : Value → Value → Sem Value} {f : Int → Int → Option V}
    (h : ∀ (A : Around) (s : Shared) (W : Wd) (st : St) (i j : Int) (x y : Tok) (r : V), Inv c.h₀ W st s.heap → f i j = some r → Does c.M c.h₀ A (t (.int i x) (.int j y)) W s st (fun W' v' => VRel W' r v')) :
    BinOk c t (fun a b => match a, b with | .int i, .int j => f i j | _, _ => none) := by
  intro A s W st a b r a' b' rm iv ra rb e
  ((first | refine x2_3 (i2_inv e) fun i j eE2 eE3 e => ?_ | obtain ⟨i, j, eE2, eE3, e⟩ := (i2_inv e)); subst eE2; subst eE3)
  ((first | refine x1_1 (int_rel ra) fun x eE4 => ?_ | obtain ⟨x, eE4⟩ := (int_rel ra)); subst eE4)
  ((first | refine x1_1 (int_rel rb) fun y eE5 => ?_ | obtain ⟨y, eE5⟩ := (int_rel rb)); subst eE5)
  exact h A s W st i j x y r iv e
theorem ok_add : BinOk c (binaryOp .Add) oAdd := ok_i2 fun A s W st i j x y r iv e => by cases e; exact P.add_int (endHere iv (.int _ _) _)
theorem ok_sub : BinOk c (binaryOp .Sub) oSub := ok_i2 fun A s W st i j x y r iv e => by cases e; exact P.sub_int (endHere iv (.int _ _) _)
theorem if_inv {p : Prop} [Decidable p] {x r : V} (e : (if p then some x else none) = some r) : p ∧ r = x := by
  split at e
  · rename_i h; cases e; exact ⟨h, rfl⟩
  · cases e
theorem ok_mul : BinOk c (binaryOp .Mult) oMul := ok_i2 fun A s W st i j x y r iv e => by ((first | refine x0_2 (if_inv e) fun h eE6 => ?_ | obtain ⟨h, eE6⟩ := (if_inv e)); subst eE6); exact P.mul_int (endHere iv (.int _ _) _) (mulOk h.symm)
theorem ok_div : BinOk c (binaryOp .FloorDiv) oDiv := ok_i2 fun A s W st i j x y r iv e => by ((first | refine x0_2 (if_inv e) fun h eE7 => ?_ | obtain ⟨h, eE7⟩ := (if_inv e)); subst eE7); exact floordiv_int h.1 (endHere iv (.int _ _) _) (Or.inl (PyProof.noPylong_small h.2))
theorem ok_mod : BinOk c (binaryOp .Mod) oMod := ok_i2 fun A s W st i j x y r iv e => by ((first | refine x0_2 (if_inv e) fun h eE8 => ?_ | obtain ⟨h, eE8⟩ := (if_inv e)); subst eE8); exact mod_int' h (endHere iv (.int _ _) _)
theorem ok_shl : BinOk c (binaryOp .LShift) oShl := ok_i2 fun A s W st i j x y r iv e => by ((first | refine x0_2 (if_inv e) fun h eE9 => ?_ | obtain ⟨h, eE9⟩ := (if_inv e)); subst eE9); exact lshift_int_small h.1 h.2.1 h.2.2 (endHere iv (.int _ _) _)
theorem ok_shr : BinOk c (binaryOp .RShift) oShr := ok_i2 fun A s W st i j x y r iv e => by ((first | refine x0_2 (if_inv e) fun h eE10 => ?_ | obtain ⟨h, eE10⟩ := (if_inv e)); subst eE10); exact rshift_int h (endHere iv (.int _ _) _)
theorem ok_pow : BinOk c (binaryOp .Pow) oPow := ok_i2 fun A s W st i j x y r iv e => by ((first | refine x0_2 (if_inv e) fun h eE11 => ?_ | obtain ⟨h, eE11⟩ := (if_inv e)); subst eE11); exact pow_int_small h.1 h.2.1 h.2.2 (endHere iv (.int _ _) _)
noncomputable def oNeg : V → Option V
  | .int a => some (.int (-a))
  | _ => none
theorem neg_inv {v r : V} (e : oNeg v = some r) : ∃ i, v = .int i ∧ r = .int (-i) := by
  unfold oNeg at e
  split at e
  · cases e; exact ⟨_, rfl, rfl⟩
  · cases e
theorem bool_inv {v : V} {st st' : St} {b : Bool} (e : (match v with | .bool b => some (b, st) | _ => none) = some (b, st')) : v = .bool b ∧ st = st' := by
  split at e
  · cases e; exact ⟨rfl, rfl⟩
  · cases e
theorem e_neg {e : Expr} {pos : Pos} {a : Den V} (ha : ESound c lv sc e a) : ESound c lv sc (.UnaryOp .USub e pos) (dUn oNeg a) := by
  intro A env s W ρ st st' v rm eo iv e
  refine bindP e fun v₁ st₁ e₁ e => ?_
  refine mapO e fun v₃ e₃ e => ?_
  cases e
  refine wpAny_UnaryOp ((ha A env s W ρ st st₁ v₁ rm eo iv e₁).to fun W₁ a₁ s₁ i₁ y₁ z₁ r₁ => ?_)
  ((first | refine x1_2 (neg_inv e₃) fun i eE12 eE13 => ?_ | obtain ⟨i, eE12, eE13⟩ := (neg_inv e₃)); subst eE12; subst eE13)
  ((first | refine x1_1 (int_rel r₁) fun t eE14 => ?_ | obtain ⟨t, eE14⟩ := (int_rel r₁)); subst eE14)
  exact P.neg_int (endJoin y₁ z₁ (endHere i₁ (.int _ _) _))
/-! comparisons -/
noncomputable def oLt : V → V → Option V | .int a, .int b => some (.bool (decide (a < b))) | _, _ => none
noncomputable def oLe : V → V → Option V | .int a, .int b => some (.bool (decide (a ≤ b))) | _, _ => none
noncomputable def oGt : V → V → Option V | .int a, .int b => some (.bool (decide (a > b))) | _, _ => none
noncomputable def oGe : V → V → Option V | .int a, .int b => some (.bool (decide (a ≥ b))) | _, _ => none
noncomputable def oIsNone : V → V → Option V | .none, .none => some (.bool true) | .own _, _ => none | .none, _ => none | _, .none => some (.bool false) | _, _ => none
noncomputable def oIsNotNone : V → V → Option V | .none, .none => some (.bool false) | .own _, _ => none | .none, _ => none | _, .none => some (.bool true) | _, _ => none
theorem ok_lt : BinOk c (compareOp .Lt) oLt := ok_i2 fun A s W st i j x y r iv e => by cases e; exact P.lt_int (endHere0 iv (.bool _))
theorem ok_le : BinOk c (compareOp .LtE) oLe := ok_i2 fun A s W st i j x y r iv e => by cases e; exact P.le_int (endHere0 iv (.bool _))
theorem ok_gt : BinOk c (compareOp .Gt) oGt := ok_i2 fun A s W st i j x y r iv e => by cases e; exact P.gt_int (endHere0 iv (.bool _))
theorem ok_ge : BinOk c (compareOp .GtE) oGe := ok_i2 fun A s W st i j x y r iv e => by cases e; exact P.ge_int (endHere0 iv (.bool _))
theorem ok_isnot : BinOk c (compareOp .IsNot) oIsNotNone := by
  intro A s W st a b r a' b' rm iv ra rb e
  unfold oIsNotNone at e
  split at e
  · cases ra; cases rb; cases e; exact isNot_none (endHere0 iv (.bool _))
  · cases e
  · cases e
  · cases rb; cases e
    cases ra <;> first | exact isNot_none (endHere0 iv (.bool _)) | (exfalso; simp_all; done)
  · cases e
theorem e_cmp {op : CmpOp} {o : V → V → Option V} (ok : BinOk c (compareOp op) o) {l r : Expr} {pos : Pos} {a b : Den V} (ha : ESound c lv sc l a) (hb : ESound c lv sc r b) (hm : behindInMarks op r = false := by with_unfolding_all rfl) :
    ESound c lv sc (.Compare l [op] [r] pos) (dBin o a b) := by
  intro A env s W ρ st st' v rm eo iv e
  refine bindP e fun v₁ st₁ e₁ e => ?_
  refine bindP e fun v₂ st₂ e₂ e => ?_
  refine mapO e fun v₃ e₃ e => ?_
  cases e
  refine wpAny_Compare1 ((ha A env s W ρ st st₁ v₁ rm eo iv e₁).to fun W₁ a₁ s₁ i₁ y₁ z₁ r₁ => ?_) hm
  refine (hb A env s₁ W₁ ρ st₁ st₂ v₂ rm (eo.step y₁) i₁ e₂).to fun W₂ a₂ s₂ i₂ y₂ z₂ r₂ => ?_
  exact (ok A s₂ W₂ st₂ v₁ v₂ v a₁ a₂ (rm.less (Nat.zero_le _)) i₂ (r₁.mono y₂.le) r₂ e₃).to fun W₃ a₃ s₃ i₃ y₃ z₃ r₃ => ⟨W₃, i₃, (y₁.trans y₂).trans y₃, (z₁.trans z₂).trans z₃, r₃⟩
/-! tests -/
noncomputable def dTest (a : Den V) : Den Bool := fun ρ st => (a ρ st).bind fun p => match p.1 with | .bool b => some (b, p.2) | _ => none
theorem t_cmp {op : CmpOp} {o : V → V → Option V} (ok : BinOk c (compareOp op) o) {l r : Expr} {pos : Pos} {a b : Den V} (ha : ESound c lv sc l a) (hb : ESound c lv sc r b) (hm : behindInMarks op r = false := by with_unfolding_all rfl) :
    TSound c lv sc (.Compare l [op] [r] pos) (dTest (dBin o a b)) := by
  intro A env s W ρ st st' v rm eo iv e
  refine bindP e fun v₀ st₀ e e₀ => ?_
  refine bindP e fun v₁ st₁ e₁ e => ?_
  refine bindP e fun v₂ st₂ e₂ e => ?_
  refine mapO e fun v₃ e₃ e => ?_
  cases e
  refine wpAny_isTrue_Compare1 ((ha A env s W ρ st st₁ v₁ rm eo iv e₁).to fun W₁ a₁ s₁ i₁ y₁ z₁ r₁ => ?_) hm
  refine (hb A env s₁ W₁ ρ st₁ st₂ v₂ rm (eo.step y₁) i₁ e₂).to fun W₂ a₂ s₂ i₂ y₂ z₂ r₂ => ?_
  refine (ok A s₂ W₂ st₂ v₁ v₂ v₀ a₁ a₂ (rm.less (Nat.zero_le _)) i₂ (r₁.mono y₂.le) r₂ e₃).to fun W₃ a₃ s₃ i₃ y₃ z₃ r₃ => ?_
  ((first | refine x0_2 (bool_inv e₀) fun eE15 eE16 => ?_ | obtain ⟨eE15, eE16⟩ := (bool_inv e₀)); subst eE15; subst eE16)
  rw [bool_rel r₃]
  exact wpAny_truthy_bool ⟨W₃, i₃, (y₁.trans y₂).trans y₃, (z₁.trans z₂).trans z₃, rfl⟩
/-- a test by value: a call, a name -/
theorem t_val {e : Expr} {a : Den V} (ha : ESound c lv sc e a) (he : ∀ env whole, isTrue e env whole = (do let v ← whole; standAt e.pos; holding [v] (truthy v))) : TSound c lv sc e (dTest a) := by
  intro A env s W ρ st st' v rm eo iv e
  refine bindP e fun v₀ st₀ e e₀ => ?_
  refine wpAny_isTrue_value ((ha A env s W ρ st st₀ v₀ rm eo iv e).to fun W₁ a₁ s₁ i₁ y₁ z₁ r₁ => ?_) (he _ _)
  ((first | refine x0_2 (bool_inv e₀) fun eE17 eE18 => ?_ | obtain ⟨eE17, eE18⟩ := (bool_inv e₀)); subst eE17; subst eE18)
  rw [bool_rel r₁]
  exact wpAny_truthy_bool ⟨W₁, i₁, y₁, z₁, rfl⟩
noncomputable def tNot (a : Den Bool) : Den Bool := fun ρ st => (a ρ st).map fun p => (!p.1, p.2)
theorem t_not {e : Expr} {pos : Pos} {a : Den Bool} (ha : TSound c lv sc e a) : TSound c lv sc (.UnaryOp .Not e pos) (tNot a) := by
  intro A env s W ρ st st' v rm eo iv e
  refine mapP e fun b st₁ e₁ e => ?_
  cases e
  exact wpAny_isTrue_Not ((ha A env s W ρ st st₁ b rm eo iv e₁).to fun W₁ a₁ s₁ i₁ y₁ z₁ r₁ => ⟨W₁, i₁, y₁, z₁, by rw [r₁]⟩)
noncomputable def tAnd (a b : Den Bool) : Den Bool := fun ρ st => (a ρ st).bind fun p => if p.1 then b ρ p.2 else some (false, p.2)
noncomputable def tOr (a b : Den Bool) : Den Bool := fun ρ st => (a ρ st).bind fun p => if p.1 then some (true, p.2) else b ρ p.2
theorem t_and {x y : Expr} {pos : Pos} {a b : Den Bool} (ha : TSound c lv sc x a) (hb : TSound c lv sc y b) : TSound c lv sc (.BoolOp .And [x, y] pos) (tAnd a b) := by
  intro A env s W ρ st st' v rm eo iv e
  refine bindP e fun p st₁ e₁ e => ?_
  refine wpAny_isTrue_BoolOp (wpAny_allTrue_And_cons ((ha A env s W ρ st st₁ p rm eo iv e₁).to fun W₁ a₁ s₁ i₁ y₁ z₁ r₁ => ?_))
  subst r₁
  cases a₁ with
  | false => simp at e; ((first | refine x0_2 e fun eE19 eE20 => ?_ | obtain ⟨eE19, eE20⟩ := e); try clear e; subst eE19; subst eE20); exact ⟨W₁, i₁, y₁, z₁, rfl⟩
  | true =>
    simp only [if_true] at e ⊢
    refine wpAny_allTrue_And_cons ((hb A env s₁ W₁ ρ st₁ st' v rm (eo.step y₁) i₁ e).to fun W₂ a₂ s₂ i₂ y₂ z₂ r₂ => ?_)
    subst r₂
    cases a₂ with
    | false => exact ⟨W₂, i₂, y₁.trans y₂, z₁.trans z₂, rfl⟩
    | true => exact wpAny_allTrue_And_nil ⟨W₂, i₂, y₁.trans y₂, z₁.trans z₂, rfl⟩
theorem t_or {x y : Expr} {pos : Pos} {a b : Den Bool} (ha : TSound c lv sc x a) (hb : TSound c lv sc y b) : TSound c lv sc (.BoolOp .Or [x, y] pos) (tOr a b) := by
  intro A env s W ρ st st' v rm eo iv e
  refine bindP e fun p st₁ e₁ e => ?_
  refine wpAny_isTrue_BoolOp (wpAny_allTrue_Or_cons ((ha A env s W ρ st st₁ p rm eo iv e₁).to fun W₁ a₁ s₁ i₁ y₁ z₁ r₁ => ?_))
  subst r₁
  cases a₁ with
  | true => simp at e; ((first | refine x0_2 e fun eE21 eE22 => ?_ | obtain ⟨eE21, eE22⟩ := e); try clear e; subst eE21; subst eE22); exact ⟨W₁, i₁, y₁, z₁, rfl⟩
  | false =>
    simp only [Bool.false_eq_true, if_false] at e ⊢
    refine wpAny_allTrue_Or_cons ((hb A env s₁ W₁ ρ st₁ st' v rm (eo.step y₁) i₁ e).to fun W₂ a₂ s₂ i₂ y₂ z₂ r₂ => ?_)
    subst r₂
    cases a₂ with
    | true => exact ⟨W₂, i₂, y₁.trans y₂, z₁.trans z₂, rfl⟩
    | false => exact wpAny_allTrue_Or_nil ⟨W₂, i₂, y₁.trans y₂, z₁.trans z₂, rfl⟩
/-- a or b, its value handed on (both are bools) -/
theorem e_or {x y : Expr} {pos : Pos} {a b : Den V} (ha : ESound c lv sc x a) (hb : ESound c lv sc y b) : ESound c lv sc (.BoolOp .Or [x, y] pos) (fun ρ st => (dTest a ρ st).bind fun p => if p.1 then some (.bool true, p.2) else b ρ p.2) := by
  intro A env s W ρ st st' v rm eo iv e
  refine bindP e fun p st₁ e₁ e => ?_
  refine bindP e₁ fun v₀ st₀ e₁ e₀ => ?_
  refine wpAny_Or2 ((ha A env s W ρ st st₀ v₀ rm eo iv e₁).to fun W₁ a₁ s₁ i₁ y₁ z₁ r₁ => ?_)
  ((first | refine x0_2 (bool_inv e₀) fun eE23 eE24 => ?_ | obtain ⟨eE23, eE24⟩ := (bool_inv e₀)); subst eE23; subst eE24)
  rw [bool_rel r₁]
  · refine wpAny_truthy_bool ?_
    cases p with
    | true => simp at e; ((first | refine x0_2 e fun eE25 eE26 => ?_ | obtain ⟨eE25, eE26⟩ := e); try clear e; subst eE25; subst eE26); exact ⟨W₁, i₁, y₁, z₁, .bool true⟩
    | false =>
      simp only [Bool.false_eq_true, if_false] at e ⊢
      exact (hb A env s₁ W₁ ρ st₀ st' v rm (eo.step y₁) i₁ e).to fun W₂ a₂ s₂ i₂ y₂ z₂ r₂ => ⟨W₂, i₂, y₁.trans y₂, z₁.trans z₂, r₂⟩
noncomputable def dIf (t : Den Bool) (a b : Den V) : Den V := fun ρ st => (t ρ st).bind fun p => if p.1 then a ρ p.2 else b ρ p.2
theorem e_if {t x y : Expr} {pos : Pos} {d : Den Bool} {a b : Den V} (ht : TSound c lv sc t d) (ha : ESound c lv sc x a) (hb : ESound c lv sc y b) : ESound c lv sc (.IfExp t x y pos) (dIf d a b) := by
  intro A env s W ρ st st' v rm eo iv e
  refine bindP e fun p st₁ e₁ e => ?_
  refine wpAny_IfExp ((ht A env s W ρ st st₁ p rm eo iv e₁).to fun W₁ a₁ s₁ i₁ y₁ z₁ r₁ => ?_)
  subst r₁
  cases a₁ with
  | true => exact (ha A env s₁ W₁ ρ st₁ st' v rm (eo.step y₁) i₁ e).to fun W₂ a₂ s₂ i₂ y₂ z₂ r₂ => ⟨W₂, i₂, y₁.trans y₂, z₁.trans z₂, r₂⟩
  | false => exact (hb A env s₁ W₁ ρ st₁ st' v rm (eo.step y₁) i₁ e).to fun W₂ a₂ s₂ i₂ y₂ z₂ r₂ => ⟨W₂, i₂, y₁.trans y₂, z₁.trans z₂, r₂⟩
/-! lists of expressions, displays -/
noncomputable def dNil : Den (List V) := fun _ st => some ([], st)
noncomputable def dCons (a : Den V) (r : Den (List V)) : Den (List V) := fun ρ st => (a ρ st).bind fun p => (r ρ p.2).map fun q => (p.1 :: q.1, q.2)
theorem es_nil : EsSound c lv sc [] dNil := by
  intro A env s W ρ st st' v pos rm eo iv e
  cases e
  exact wpAny_items_nil (endHere0 iv .nil)
theorem es_cons {x : Expr} {rest : List Expr} {a : Den V} {r : Den (List V)} (ha : ESound c lv sc x a) (hr : EsSound c lv sc rest r) (he : ∀ env, starEach (x :: rest) env = (false, eval x env) :: starEach rest env) :
    EsSound c lv sc (x :: rest) (dCons a r) := by
  intro A env s W ρ st st' v pos rm eo iv e
  refine bindP e fun v₁ st₁ e₁ e => ?_
  refine mapP e fun v₂ st₂ e₂ e => ?_
  cases e
  refine wpAny_items_cons ((ha A env s W ρ st st₁ v₁ rm eo iv e₁).to fun W₁ a₁ s₁ i₁ y₁ z₁ r₁ => ?_) (he _)
  exact (hr A env s₁ W₁ ρ st₁ st₂ v₂ pos rm (eo.step y₁) i₁ e₂).to fun W₂ a₂ s₂ i₂ y₂ z₂ r₂ => ⟨W₂, i₂, y₁.trans y₂, z₁.trans z₂, .cons (r₁.mono y₂.le) r₂⟩
noncomputable def dTup (r : Den (List V)) : Den V := fun ρ st => (r ρ st).bind fun q => if q.1.length ≤ 1000000 then some (.tup q.1, q.2) else none
noncomputable def dList (r : Den (List V)) : Den V := fun ρ st => (r ρ st).bind fun q => if q.1.length ≤ 1000000 then some (.lst q.1, q.2) else none
noncomputable def dListM (r : Den (List V)) : Den V := fun ρ st => (r ρ st).bind fun q => if q.1.length ≤ 1000000 then some (.ref q.2.length, q.2 ++ [.lst q.1]) else none
theorem VsRel.length {W : Wd} {vs : List V} {vs' : List Value} (x : VsRel W vs vs') : vs.length = vs'.length := by
  induction vs generalizing vs' with
  | nil => cases x; rfl
  | cons v r ih => cases x with | cons a b => simp [ih b]
theorem lineOf {n : Nat} (h : n ≤ 1000000) : n ≤ sizeLine := by show n ≤ 2 ^ 24; lia
theorem endTup {h₀ : Heap} {W : Wd} {s : Shared} {st : St} {vs : List V} {vs' : List Value} (i : Inv h₀ W st s.heap) (r : VsRel W vs vs') :
    ∃ W', Inv h₀ W' st (s.heap.push { cls := .type "tuple", data := .seq vs'.toArray }) ∧ Step W s.heap W' (s.heap.push { cls := .type "tuple", data := .seq vs'.toArray }) ∧ VRel W' (.tup vs) (.ref s.heap.objs.size) := by
  ((first | refine x0_2 (i.push { cls := .type "tuple", data := .seq vs'.toArray } rfl) fun a b => ?_ | obtain ⟨a, b⟩ := (i.push { cls := .type "tuple", data := .seq vs'.toArray } rfl)))
  exact ⟨_, a, b, .tup (Wd.freeze_self _ _ _) rfl (by simpa using r.mono b.le)⟩
theorem endList {h₀ : Heap} {W : Wd} {s : Shared} {st : St} {vs : List V} {vs' : List Value} (i : Inv h₀ W st s.heap) (r : VsRel W vs vs') :
    ∃ W', Inv h₀ W' st (s.heap.push { cls := .type "list", data := .seq vs'.toArray }) ∧ Step W s.heap W' (s.heap.push { cls := .type "list", data := .seq vs'.toArray }) ∧ VRel W' (.lst vs) (.ref s.heap.objs.size) := by
  ((first | refine x0_2 (i.push { cls := .type "list", data := .seq vs'.toArray } rfl) fun a b => ?_ | obtain ⟨a, b⟩ := (i.push { cls := .type "list", data := .seq vs'.toArray } rfl)))
  exact ⟨_, a, b, .lst (Wd.freeze_self _ _ _) rfl (by simpa using r.mono b.le)⟩
theorem Wd.add_le (W : Wd) (a : Addr) : W.Le (W.add a) := ⟨fun _ _ e => e, fun i b e => by
    show (W.φ ++ [a])[i]? = some b
    rw [List.getElem?_append_left (List.getElem?_eq_some_iff.mp e).1]; exact e⟩
theorem endListM {h₀ : Heap} {W : Wd} {s : Shared} {st : St} {vs : List V} {vs' : List Value} (i : Inv h₀ W st s.heap) (r : VsRel W vs vs') :
    ∃ W', Inv h₀ W' (st ++ [.lst vs]) (s.heap.push { cls := .type "list", data := .seq vs'.toArray }) ∧ Step W s.heap W' (s.heap.push { cls := .type "list", data := .seq vs'.toArray }) ∧ VRel W' (.ref st.length) (.ref s.heap.objs.size) := by
  ((first | refine x0_2 (i.alloc { cls := .type "list", data := .seq vs'.toArray } (.lst vs) rfl (.lst rfl rfl (by simpa using r.mono (W.add_le _)))) fun a b => ?_ | obtain ⟨a, b⟩ := (i.alloc { cls := .type "list", data := .seq vs'.toArray } (.lst vs) rfl (.lst rfl rfl (by simpa using r.mono (W.add_le _))))))
  refine ⟨_, a, b, .ref ?_⟩
  show (W.φ ++ [s.heap.objs.size])[st.length]? = _
  rw [← i.len, List.getElem?_append_right (Nat.le_refl _)]; simp
noncomputable def dListG (r : Den (List V)) : Den V := fun ρ st => (r ρ st).bind fun q => if q.1.length ≤ 1000000 then some (.ref q.2.length, q.2 ++ [.grow q.1]) else none
theorem e_listG {elts : List Expr} {pos : Pos} {r : Den (List V)} (hr : EsSound c lv sc elts r) : ESound c lv sc (.List elts pos) (dListG r) := by
  intro A env s W ρ st st' v rm eo iv e
  refine bindP e fun vs st₁ e₁ e => ?_
  split at e
  · rename_i hlen
    cases e
    refine wpAny_List ((hr A env s W ρ st st₁ vs pos rm eo iv e₁).to fun W₁ a₁ s₁ i₁ y₁ z₁ r₁ => ⟨lineOf (r₁.length ▸ hlen), ?_⟩)
    ((first | refine x0_2 (i₁.alloc { cls := .type "list", data := .seq a₁.toArray } (.grow vs) rfl (.grow rfl (by simpa using r₁.mono (W₁.add_le _)))) fun a b => ?_ | obtain ⟨a, b⟩ := (i₁.alloc { cls := .type "list", data := .seq a₁.toArray } (.grow vs) rfl (.grow rfl (by simpa using r₁.mono (W₁.add_le _))))))
    refine ⟨_, a, y₁.trans b, ⟨z₁.gens, z₁.os⟩, .ref ?_⟩
    show (W₁.φ ++ [s₁.heap.objs.size])[st₁.length]? = _
    rw [← i₁.len, List.getElem?_append_right (Nat.le_refl _)]; simp
  · cases e
theorem e_tup {elts : List Expr} {k : Nat} {pos : Pos} {r : Den (List V)} (hr : EsSound c lv sc elts r) : ESound c lv sc (.Tuple elts k pos) (dTup r) := by
  intro A env s W ρ st st' v rm eo iv e
  refine bindP e fun vs st₁ e₁ e => ?_
  split at e
  · rename_i hlen
    cases e
    refine wpAny_Tuple ((hr A env s W ρ st st₁ vs pos rm eo iv e₁).to fun W₁ a₁ s₁ i₁ y₁ z₁ r₁ => ⟨lineOf (r₁.length ▸ hlen), ?_⟩)
    ((first | refine x1_3 (endTup i₁ r₁) fun W' i y r => ?_ | obtain ⟨W', i, y, r⟩ := (endTup i₁ r₁)))
    exact ⟨W', i, y₁.trans y, ⟨z₁.gens, z₁.os⟩, r⟩
  · cases e
theorem e_list {elts : List Expr} {pos : Pos} {r : Den (List V)} (hr : EsSound c lv sc elts r) : ESound c lv sc (.List elts pos) (dList r) := by
  intro A env s W ρ st st' v rm eo iv e
  refine bindP e fun vs st₁ e₁ e => ?_
  split at e
  · rename_i hlen
    cases e
    refine wpAny_List ((hr A env s W ρ st st₁ vs pos rm eo iv e₁).to fun W₁ a₁ s₁ i₁ y₁ z₁ r₁ => ⟨lineOf (r₁.length ▸ hlen), ?_⟩)
    ((first | refine x1_3 (endList i₁ r₁) fun W' i y r => ?_ | obtain ⟨W', i, y, r⟩ := (endList i₁ r₁)))
    exact ⟨W', i, y₁.trans y, ⟨z₁.gens, z₁.os⟩, r⟩
  · cases e
theorem e_listM {elts : List Expr} {pos : Pos} {r : Den (List V)} (hr : EsSound c lv sc elts r) : ESound c lv sc (.List elts pos) (dListM r) := by
  intro A env s W ρ st st' v rm eo iv e
  refine bindP e fun vs st₁ e₁ e => ?_
  split at e
  · rename_i hlen
    cases e
    refine wpAny_List ((hr A env s W ρ st st₁ vs pos rm eo iv e₁).to fun W₁ a₁ s₁ i₁ y₁ z₁ r₁ => ⟨lineOf (r₁.length ▸ hlen), ?_⟩)
    ((first | refine x1_3 (endListM i₁ r₁) fun W' i y r => ?_ | obtain ⟨W', i, y, r⟩ := (endListM i₁ r₁)))
    exact ⟨W', i, y₁.trans y, ⟨z₁.gens, z₁.os⟩, r⟩
  · cases e
end
end Mine
namespace Mine
theorem ofString_inj {a b : String} (h : Str.ofString a = Str.ofString b) : a = b := by
  rw [Str.ofString_eq_toList, Str.ofString_eq_toList] at h
  have h1 : (a.toList.map Char.toNat) = (b.toList.map Char.toNat) := by simpa using congrArg (fun x : Str => x.cps.toList) h
  have h2 : a.toList = b.toList := by
    refine (List.map_inj_right (f := Char.toNat) fun x y q => ?_).mp h1
    exact Char.ext (UInt32.toNat_inj.mp q)
  exact String.toList_inj.mp h2
structure Snap1 where
  W : Wd
  s : Shared
  g : Addr → Option Obj
noncomputable def OwnAt (env : Env) (e : Snap1) (W : Wd) (h : Heap) (x : String) (a : Addr) (vs : List V) : Prop :=
  VarAt env h (Str.ofString x) (.ref a) ∧ (∃ (o : Obj) (items : Array Value) (n : Nat), h.get? a = some o ∧ LObj "list" o items n ∧ VsRel W vs items.toList) ∧
  W.fz a = none ∧ a ∉ W.φ ∧ e.g a = none ∧ a ≠ env.locals ∧ ∀ y c, env.cells.lookup y = some c → a ≠ c
structure EnvS (sc : Scope) (env : Env) (e : Snap1) (W : Wd) (ρ : Rho) (h : Heap) : Prop where
  ok : EnvOk sc env W ρ h
  lnew : e.g env.locals = none
  lfz : W.fz env.locals = none
  ns : ∃ m, h.Ns env.locals m
  loc : ∀ x, sc.names.lookup x = some .local → env.kindOf x = some .local
  cel : ∀ x, sc.names.lookup x = some .cell → env.kindOf x = some .cell ∧ ∃ c o v, env.cells.lookup x = some c ∧ h.get? c = some o ∧ o.data = .cell v ∧ W.fz c = none ∧ e.g c = none
  apart : ∀ x y c, env.cells.lookup x = some c → env.cells.lookup y = some c → x = y
  lcell : ∀ x c, env.cells.lookup x = some c → c ≠ env.locals
  own : ∃ ow : String → Addr, (∀ x vs, ρ x = some (.own vs) → OwnAt env e W h x (ow x) vs) ∧ ∀ x y vs us, ρ x = some (.own vs) → ρ y = some (.own us) → ow x = ow y → x = y
theorem EnvS.step {sc : Scope} {env : Env} {e : Snap1} {W W' : Wd} {ρ : Rho} {h h' : Heap} (x : EnvS sc env e W ρ h) (t : Step W h W' h') : EnvS sc env e W' ρ h' := by
  ((first | refine x1_2 x.own fun ow o1 o2 => ?_ | obtain ⟨ow, o1, o2⟩ := x.own))
  have hl := x.ok.locals
  refine ⟨x.ok.step t, x.lnew, ?_, ?_, x.loc, fun y hy => ?_, x.apart, x.lcell, ow, fun y vs hy => ?_, o2⟩
  · ((first | refine x1_2 hl fun n o q => ?_ | obtain ⟨n, o, q⟩ := hl); try clear hl); rw [t.old _ o q n]; exact x.lfz
  · ((first | refine x3_3 x.ns fun m o es ep q r => ?_ | refine x4_2 x.ns fun m o es ep q r => ?_ | obtain ⟨m, o, es, ep, q, r⟩ := x.ns)); exact ⟨m, o, es, ep, t.keep _ _ q hl.1, r⟩
  · ((obtain ⟨k, c, o, v, a, b, d, f, g⟩ := (x.cel y hy)))
    have n := (x.ok.cells y c a).1
    exact ⟨k, c, o, v, a, t.keep _ _ b n, d, by rw [t.old _ o b n]; exact f, g⟩
  · ((first | refine x0_7 (o1 y vs hy) fun a xE27 b d f g i => ?_ | obtain ⟨a, xE27, b, d, f, g, i⟩ := (o1 y vs hy)); ((first | refine x3_3 xE27 fun o items n q1 q2 q4 => ?_ | refine x4_2 xE27 fun o items n q1 q2 q4 => ?_ | obtain ⟨o, items, n, q1, q2, q4⟩ := xE27); try clear xE27))
    exact ⟨a.step t hl.1 (fun z c q => (x.ok.cells z c q).1), ⟨o, items, n, t.keep _ _ q1 d, q2, q4.mono t.le⟩, by rw [t.old _ o q1 d]; exact b, t.notin q1 d, f, g, i⟩
/-- a heap in which one own address turned -/
theorem Inv.turn {h₀ : Heap} {W : Wd} {st : St} {h h' : Heap} {t : Addr} (i : Inv h₀ W st h) (b : Heap.SameBut t h h') (f : W.fz t = none) (n : t ∉ W.φ) : Inv h₀ W st h' :=
  ⟨i.base, fun a o q => (b.2 a fun z => by rw [z, f] at q; cases q).trans (i.froz a o q), i.len, i.nodup, i.free, fun j a m q r =>
    let ⟨o, x, y⟩ := i.live j a m q r; ⟨o, (b.2 a fun z => n (z ▸ List.mem_of_getElem? q)).trans x, y⟩⟩
theorem StepG.turn {W₀ W : Wd} {g : Addr → Option Obj} {h h' : Heap} {t : Addr} (x : StepG W₀ g W h) (b : Heap.SameBut t h h') (n : g t = none) : StepG W₀ g W h' := by
  have ne : ∀ (c : Addr) (o : Obj), g c = some o → c ≠ t := fun c o q z => by rw [z, n] at q; cases q
  exact ⟨fun c o q m => (b.2 c (ne c o q)).trans (x.keep c o q m), fun c o q => let ⟨o', z⟩ := x.alive c o q; ⟨o', (b.2 c (ne c o q)).trans z⟩, x.fz, x.old, x.pre⟩
structure Stored (env : Env) (h h' : Heap) (x : Str) (v : Value) (t : Addr) : Prop where
  here : VarAt env h' x v
  other : ∀ y u, y ≠ x → VarAt env h y u → VarAt env h' y u
  but : Heap.SameBut t h h'
  ex : ∃ o, h'.get? t = some o
  ns : ∃ m, h'.Ns env.locals m
  tis : t = env.locals ∨ (env.cells.lookup x = some t ∧ ∃ o v, h'.get? t = some o ∧ o.data = .cell v)
section
variable {sc : Scope} {env : Env} {e : Snap1} {W : Wd} {ρ : Rho}
theorem store_raw {M : Model} {A : Around} {E : Value → Shared → Prop} {s : Shared} {x : Str} {v : Value} {Q : Unit → Shared → Prop} (S : EnvS sc env e W ρ s.heap) (hx : sc.names.lookup x = some .local ∨ sc.names.lookup x = some .cell)
    (h : ∀ h' tk t, Stored env s.heap h' x v t → W.fz t = none → t ∉ W.φ → e.g t = none → Q () { s with heap := h', toks := tk }) : wpAny M A (storeName env x v) Q E s := by
  rcases hx with hx | hx
  · ((first | refine x1_1 S.ns fun m hm => ?_ | obtain ⟨m, hm⟩ := S.ns))
    refine wpAny_storeName_local (S.loc x hx) hm (fun h' hn hs => h h' _ env.locals ⟨.inl ⟨S.loc x hx, _, hn, if_pos rfl⟩, fun y u ne q => ?_, hs, ?_, ⟨_, hn⟩, .inl rfl⟩ S.lfz S.ok.locals.1 S.lnew) (by rw [S.ok.kind]; rfl)
    · rcases q with ⟨k, m', hm', q⟩ | ⟨k, c, q1, q2⟩
      · refine .inl ⟨k, _, hn, ?_⟩
        rw [if_neg ne]
        ((first | refine x3_4 hm fun o es ep a1 a2 a3 a4 => ?_ | obtain ⟨o, es, ep, a1, a2, a3, a4⟩ := hm); try clear hm)
        ((first | refine x3_4 hm' fun o' es' ep' b1 b2 b3 b4 => ?_ | obtain ⟨o', es', ep', b1, b2, b3, b4⟩ := hm'); try clear hm')
        rw [a1] at b1; cases b1; rw [a2] at b2; cases b2
        rw [← a4 y, b4 y]; exact q
      · refine .inr ⟨k, c, q1, ?_⟩
        ((first | refine x1_2 q2 fun o z1 z2 => ?_ | obtain ⟨o, z1, z2⟩ := q2); try clear q2)
        exact ⟨o, (hs.2 c (S.lcell y c q1)).trans z1, z2⟩
    · ((first | refine x3_2 hn fun o es ep a1 _ => ?_ | obtain ⟨o, es, ep, a1, _⟩ := hn); try clear hn); exact ⟨o, a1⟩
  · ((obtain ⟨k, c, o, v₀, a, b, d, f, g⟩ := (S.cel x hx)))
    refine wpAny_storeName_cell S.ok.kind k a ⟨o, b, d⟩ fun h' hc hs => ?_
    refine h h' s.toks c ⟨.inr ⟨.inl k, c, a, hc⟩, fun y u ne q => ?_, hs, ?_, ?_, .inr ⟨a, ?_⟩⟩ f (S.ok.cells x c a).1 g
    · rcases q with ⟨k', m', ⟨o', es', ep', b1, b2⟩, q⟩ | ⟨k', c', q1, o', z1, z2⟩
      · exact .inl ⟨k', m', ⟨o', es', ep', (hs.2 _ (fun z => S.lcell x c a z.symm)).trans b1, b2⟩, q⟩
      · exact .inr ⟨k', c', q1, o', (hs.2 c' fun z => ne (S.apart y x c (z ▸ q1) a)).trans z1, z2⟩
    · ((first | refine x1_2 hc fun o' z _ => ?_ | obtain ⟨o', z, _⟩ := hc); try clear hc); exact ⟨o', z⟩
    · ((first | refine x4_2 S.ns fun m o' es' ep' b1 b2 => ?_ | obtain ⟨m, o', es', ep', b1, b2⟩ := S.ns))
      exact ⟨m, o', es', ep', (hs.2 _ (fun z => S.lcell x c a z.symm)).trans b1, b2⟩
    · ((first | refine x1_2 hc fun o' z1 z2 => ?_ | obtain ⟨o', z1, z2⟩ := hc); try clear hc); exact ⟨o', _, z1, z2⟩
theorem EnvS.stored {h h' : Heap} {x : String} {v : V} {v' : Value} {t : Addr} (S : EnvS sc env e W ρ h) (T : Stored env h h' (Str.ofString x) v' t) (r : VRel W v v') : EnvS sc env e W (ρ.set x v) h' := by
  have no : ∀ vs, v ≠ .own vs := fun vs z => by subst z; cases r
  have tl : ∀ a : Addr, a ≠ env.locals → (∀ y c, env.cells.lookup y = some c → a ≠ c) → a ≠ t := fun a n1 n2 z => by
    rcases T.tis with q | ⟨q, _⟩
    · exact n1 (z.trans q)
    · exact n2 _ _ q z
  have lv : ∃ o, h'.get? env.locals = some o := by ((first | refine x3_3 T.ns fun m o es ep q _ => ?_ | refine x4_2 T.ns fun m o es ep q _ => ?_ | obtain ⟨m, o, es, ep, q, _⟩ := T.ns)); exact ⟨o, q⟩
  refine ⟨⟨S.ok.kind, S.ok.globals, S.ok.builtins, S.ok.glob, S.ok.fr, ⟨S.ok.locals.1, lv⟩, fun y c q => ⟨(S.ok.cells y c q).1, ?_⟩, fun y u q n => ?_⟩, S.lnew, S.lfz, T.ns, S.loc, fun y hy => ?_, S.apart, S.lcell, ?_⟩
  · ((first | refine x1_2 (S.ok.cells y c q) fun n o z => ?_ | obtain ⟨n, o, z⟩ := (S.ok.cells y c q)))
    by_cases hc : c = t
    · subst hc; exact T.ex
    · exact ⟨o, (T.but.2 c hc).trans z⟩
  · unfold Rho.set at q
    split at q
    · rename_i hy; subst hy; cases q; exact ⟨v', T.here, r⟩
    · rename_i hy
      ((first | refine x1_2 (S.ok.vars y u q n) fun u' a b => ?_ | obtain ⟨u', a, b⟩ := (S.ok.vars y u q n)))
      exact ⟨u', T.other _ _ (fun z => hy (ofString_inj z)) a, b⟩
  · ((obtain ⟨k, c, o, v₀, a, b, d, f, g⟩ := (S.cel y hy)))
    by_cases hc : c = t
    · subst hc
      rcases T.tis with q | ⟨q, o', v₁, z1, z2⟩
      · exact absurd q (S.lcell y c a)
      · exact ⟨k, c, o', v₁, a, z1, z2, f, g⟩
    · exact ⟨k, c, o, v₀, a, (T.but.2 c hc).trans b, d, f, g⟩
  · ((first | refine x1_2 S.own fun ow o1 o2 => ?_ | obtain ⟨ow, o1, o2⟩ := S.own))
    have old : ∀ y vs, (ρ.set x v) y = some (.own vs) → y ≠ x ∧ ρ y = some (.own vs) := fun y vs q => by
      unfold Rho.set at q
      split at q
      · cases q; exact absurd rfl (no vs)
      · rename_i hy; exact ⟨hy, q⟩
    refine ⟨ow, fun y vs q => ?_, fun y z vs us q q' => o2 y z vs us (old y vs q).2 (old z us q').2⟩
    ((first | refine x0_2 (old y vs q) fun hy q => ?_ | obtain ⟨hy, q⟩ := (old y vs q)))
    ((first | refine x0_7 (o1 y vs q) fun a xE28 b d f g i => ?_ | obtain ⟨a, xE28, b, d, f, g, i⟩ := (o1 y vs q)); ((first | refine x3_3 xE28 fun o items n q1 q2 q4 => ?_ | refine x4_2 xE28 fun o items n q1 q2 q4 => ?_ | obtain ⟨o, items, n, q1, q2, q4⟩ := xE28); try clear xE28))
    exact ⟨T.other _ _ (fun z => hy (ofString_inj z)) a, ⟨o, items, n, (T.but.2 _ (tl _ g i)).trans q1, q2, q4⟩, b, d, f, g, i⟩
end
inductive Fl where
  | next
  | ret (v : V)
noncomputable abbrev SDen := Rho → St → Option (Fl × Rho × St)
noncomputable def FlRel (sc : Scope) (env : Env) (e : Snap1) (W : Wd) (h : Heap) (ρ : Rho) : Fl → Flow → Prop
  | .next, f => f = .next ∧ EnvS sc env e W ρ h
  | .ret v, f => ∃ v', f = .ret v' ∧ VRel W v v'
structure End2 (h₀ : Heap) (e : Snap1) (st' : St) (P : Prop) (s' : Shared) (W' : Wd) : Prop where
  inv : Inv h₀ W' st' s'.heap
  step : StepG e.W e.g W' s'.heap
  same : Same e.s s'
  rel : P
noncomputable def SSound (c : Cx) (lv : Nat) (sc : Scope) (ss : List Stmt) (f : SDen) : Prop :=
  ∀ (A : Around) (env : Env) (e : Snap1) (s : Shared) (W : Wd) (ρ ρ' : Rho) (st st' : St) (fl : Fl), Room A lv → EnvS sc env e W ρ s.heap → Inv c.h₀ W st s.heap → StepG e.W e.g W s.heap → Same e.s s → f ρ st = some (fl, ρ', st') →
    wpAny c.M A (execs ss env) (fun flow s' => ∃ W', End2 c.h₀ e st' (FlRel sc env e W' s'.heap ρ' fl flow) s' W') (fun _ _ => False) s
noncomputable def XSound (c : Cx) (lv : Nat) (sc : Scope) (x : Stmt) (f : SDen) : Prop :=
  ∀ (A : Around) (env : Env) (e : Snap1) (s : Shared) (W : Wd) (ρ ρ' : Rho) (st st' : St) (fl : Fl), Room A lv → EnvS sc env e W ρ s.heap → Inv c.h₀ W st s.heap → StepG e.W e.g W s.heap → Same e.s s → f ρ st = some (fl, ρ', st') →
    wpAny c.M A (exec x env) (fun flow s' => ∃ W', End2 c.h₀ e st' (FlRel sc env e W' s'.heap ρ' fl flow) s' W') (fun _ _ => False) s
section
variable {c : Cx} {lv : Nat} {sc : Scope}
noncomputable def sNil : SDen := fun ρ st => some (.next, ρ, st)
noncomputable def sSeq (a b : SDen) : SDen := fun ρ st => (a ρ st).bind fun p => match p.1 with
  | .next => b p.2.1 p.2.2
  | .ret v => some (.ret v, p.2.1, p.2.2)
theorem ss_nil : SSound c lv sc [] sNil := by
  intro A env e s W ρ ρ' st st' fl rm S iv t z q
  cases q
  exact wpAny_execs_nil ⟨W, iv, t, z, rfl, S⟩
theorem ss_cons {x : Stmt} {r : List Stmt} {a b : SDen} (hx : XSound c lv sc x a) (hr : SSound c lv sc r b) : SSound c lv sc (x :: r) (sSeq a b) := by
  intro A env e s W ρ ρ' st st' fl rm S iv t z q
  refine bindT q fun f₁ ρ₁ st₁ q₁ q => ?_
  refine wpAny_execs_cons (wpAny_mono (hx A env e s W ρ ρ₁ st st₁ f₁ rm S iv t z q₁) (fun flow s' h => ?_) fun _ _ f => f)
  ((obtain ⟨W', i', t', z', r'⟩ := h); try clear h)
  cases f₁ with
  | next => ((first | refine x0_2 r' fun eE29 S' => ?_ | obtain ⟨eE29, S'⟩ := r'); try clear r'; subst eE29); exact hr A env e s' W' ρ₁ ρ' st₁ st' fl rm S' i' t' z' q
  | ret v =>
    cases q
    ((first | refine x1_2 r' fun v' eE30 rv => ?_ | obtain ⟨v', eE30, rv⟩ := r'); try clear r'; subst eE30)
    exact ⟨W', i', t', z', v', rfl, rv⟩
/-- a thing that only we do: what a name holds becomes frozen -/
noncomputable def sFreeze (x : String) (b : SDen) : SDen := fun ρ st => match ρ x with
  | some (.own vs) => b (ρ.set x (.lst vs)) st
  | _ => none
theorem freeze_own {env : Env} {e : Snap1} {W : Wd} {ρ : Rho} {h₀ h : Heap} {st : St} {x : String} {vs : List V} (S : EnvS sc env e W ρ h) (iv : Inv h₀ W st h) (t : StepG e.W e.g W h) (hx : ρ x = some (.own vs)) :
    ∃ W', Inv h₀ W' st h ∧ StepG e.W e.g W' h ∧ EnvS sc env e W' (ρ.set x (.lst vs)) h := by
  ((first | refine x1_2 S.own fun ow o1 o2 => ?_ | obtain ⟨ow, o1, o2⟩ := S.own))
  ((first | refine x0_7 (o1 x vs hx) fun va xE31 b d f g i => ?_ | obtain ⟨va, xE31, b, d, f, g, i⟩ := (o1 x vs hx)); ((first | refine x3_3 xE31 fun o items n q1 q2 q4 => ?_ | obtain ⟨o, items, n, q1, q2, q4⟩ := xE31); try clear xE31))
  have ne : ∀ (a : Addr) (p : Obj), W.fz a = some p → a ≠ ow x := fun a p q z => by rw [z, b] at q; cases q
  have L : W.Le (W.freeze (ow x) o) := ⟨fun a p q => by show (if a = ow x then some o else W.fz a) = some p; rw [if_neg (ne a p q)]; exact q, fun _ _ q => q⟩
  have fzne : ∀ a, a ≠ ow x → (W.freeze (ow x) o).fz a = W.fz a := fun a z => if_neg z
  refine ⟨W.freeze (ow x) o, ⟨fun a p q => L.fz a p (iv.base a p q), fun a p q => ?_, iv.len, iv.nodup, fun j a m q r nd => ?_, fun j a m q r => let ⟨p, y, z⟩ := iv.live j a m q r; ⟨p, y, z.mono L⟩⟩,
    ⟨t.keep, t.alive, fun a p q => L.fz a p (t.fz a p q), fun a p q m => ?_, t.pre⟩, ?_⟩
  · change (if a = ow x then some o else W.fz a) = some p at q
    split at q
    · rename_i z; subst z; cases q; exact q1
    · exact iv.froz a p q
  · rw [fzne a fun z => d (z ▸ List.mem_of_getElem? q)]; exact iv.free j a m q r nd
  · rw [fzne a fun z => by rw [z, f] at q; cases q]; exact t.old a p q m
  · refine ⟨⟨S.ok.kind, S.ok.globals, S.ok.builtins, S.ok.glob, S.ok.fr, S.ok.locals, S.ok.cells, fun y u q n => ?_⟩, S.lnew, ?_, S.ns, S.loc, fun y hy => ?_, S.apart, S.lcell, ow, fun y us q => ?_, fun y z us ws q q' => ?_⟩
    · unfold Rho.set at q
      split at q
      · rename_i hy; subst hy; cases q
        exact ⟨_, va, .lst (Wd.freeze_self _ _ _) q2 (q4.mono L)⟩
      · ((first | refine x1_2 (S.ok.vars y u q n) fun u' a' b' => ?_ | obtain ⟨u', a', b'⟩ := (S.ok.vars y u q n)))
        exact ⟨u', a', b'.mono L⟩
    · rw [fzne _ (Ne.symm g)]; exact S.lfz
    · ((obtain ⟨k, cc, p, v₀, a1, b1, d1, f1, g1⟩ := (S.cel y hy)))
      exact ⟨k, cc, p, v₀, a1, b1, d1, by rw [fzne _ (Ne.symm (i y cc a1))]; exact f1, g1⟩
    · unfold Rho.set at q
      split at q
      · cases q
      · rename_i hy
        ((first | refine x0_7 (o1 y us q) fun va' xE32 b' d' f' g' i' => ?_ | obtain ⟨va', xE32, b', d', f', g', i'⟩ := (o1 y us q)); ((first | refine x3_3 xE32 fun p its k p1 p2 p4 => ?_ | obtain ⟨p, its, k, p1, p2, p4⟩ := xE32); try clear xE32))
        refine ⟨va', ⟨p, its, k, p1, p2, p4.mono L⟩, ?_, d', f', g', i'⟩
        rw [fzne _ fun z => hy (o2 y x us vs q hx z)]; exact b'
    · unfold Rho.set at q q'
      split at q
      · cases q
      · split at q'
        · cases q'
        · exact o2 y z us ws q q'
theorem ss_freeze {x : String} {ss : List Stmt} {b : SDen} (hb : SSound c lv sc ss b) : SSound c lv sc ss (sFreeze x b) := by
  intro A env e s W ρ ρ' st st' fl rm S iv t z q
  unfold sFreeze at q
  split at q
  · rename_i vs hx
    ((first | refine x1_3 (freeze_own S iv t hx) fun W' i' t' S' => ?_ | obtain ⟨W', i', t', S'⟩ := (freeze_own S iv t hx)))
    exact hb A env e s W' _ ρ' st st' fl rm S' i' t' z q
  · cases q
/-! simple statements -/
noncomputable def sAsg (x : String) (a : Den V) : SDen := fun ρ st => (a ρ st).map fun p => (.next, ρ.set x p.1, p.2)
theorem x_asg {x : String} {pos' pos : Pos} {val : Expr} {a : Den V} (ha : ESound c lv sc val a) (hx : sc.names.lookup (Str.ofString x) = some .local ∨ sc.names.lookup (Str.ofString x) = some .cell)
    (hs : ∀ env, swapsWith val (some (.Name (Str.ofString x) pos')) pos.line env = pure false) : XSound c lv sc (.Assign [.Name (Str.ofString x) pos'] val pos) (sAsg x a) := by
  intro A env e s W ρ ρ' st st' fl rm S iv t z q
  refine mapP q fun v st₁ q₁ q => ?_
  cases q
  refine wpAny_Assign_Name ((ha A env s W ρ st st₁ v rm S.ok iv q₁).to fun W₁ a₁ s₁ i₁ y₁ z₁ r₁ => ?_) (hs env)
  have S₁ := S.step y₁
  refine store_raw S₁ hx fun h' tk tt T f n g => ⟨W₁, i₁.turn T.but f n, (t.trans y₁).turn T.but g, ⟨z₁.gens.trans z.gens, z₁.os.trans z.os⟩, rfl, S₁.stored T r₁⟩
noncomputable def sRet (a : Den V) : SDen := fun ρ st => (a ρ st).map fun p => (.ret p.1, ρ, p.2)
theorem x_ret {pos : Pos} {val : Expr} {a : Den V} (ha : ESound c lv sc val a) : XSound c lv sc (.Return (some val) pos) (sRet a) := by
  intro A env e s W ρ ρ' st st' fl rm S iv t z q
  refine mapP q fun v st₁ q₁ q => ?_
  cases q
  exact wpAny_Return_some ((ha A env s W ρ st st₁ v rm S.ok iv q₁).to fun W₁ a₁ s₁ i₁ y₁ z₁ r₁ => ⟨W₁, i₁, t.trans y₁, z.trans z₁, a₁, rfl, r₁⟩)
noncomputable def sIf (d : Den Bool) (a b : SDen) : SDen := fun ρ st => (d ρ st).bind fun p => if p.1 then a ρ p.2 else b ρ p.2
theorem x_if {pos : Pos} {test : Expr} {body orelse : List Stmt} {d : Den Bool} {a b : SDen} (ht : TSound c lv sc test d) (ha : SSound c lv sc body a) (hb : SSound c lv sc orelse b) : XSound c lv sc (.If test body orelse pos) (sIf d a b) := by
  intro A env e s W ρ ρ' st st' fl rm S iv t z q
  refine bindP q fun p st₁ q₁ q => ?_
  refine wpAny_If ((ht A env s W ρ st st₁ p rm S.ok iv q₁).to fun W₁ a₁ s₁ i₁ y₁ z₁ r₁ => ?_)
  subst r₁
  have S₁ := S.step y₁
  cases a₁ with
  | true => exact ha A env e s₁ W₁ ρ ρ' st₁ st' fl rm S₁ i₁ (t.trans y₁) (z.trans z₁) q
  | false => exact hb A env e s₁ W₁ ρ ρ' st₁ st' fl rm S₁ i₁ (t.trans y₁) (z.trans z₁) q
end
end Mine
namespace Mine
/-! calls -/
noncomputable def FSound (c : Cx) (lv : Nat) (f : Addr) (d : List V → St → Option (V × St)) : Prop :=
  ∀ (A : Around) (s : Shared) (W : Wd) (st st' : St) (vs : List V) (vs' : List Value) (v : V), Room A lv → Inv c.h₀ W st s.heap → VsRel W vs vs' → d vs st = some (v, st') →
    codeAny c.M A (.call (.ref f) ⟨vs', []⟩) (fun r s' => ∃ v', r = .ok (.ret v') ∧ ∃ W', End1 c.h₀ W s st' (VRel W' v v') s' W') s
noncomputable def bindR : List String → List V → Rho
  | x :: xs, v :: vs => fun y => if y = x then some v else bindR xs vs y
  | _, _ => fun _ => none
theorem bindR_at {W : Wd} : ∀ {names : List String} {vs : List V} {vs' : List Value}, VsRel W vs vs' → ∀ {x : String} {v : V}, bindR names vs x = some v → ∃ v', (Str.ofString x, v') ∈ (names.map Str.ofString).zip vs' ∧ VRel W v v'
  | [], _, _, _, x, v, e => by simp [bindR] at e
  | n :: names, [], _, _, x, v, e => by simp [bindR] at e
  | n :: names, u :: vs, _, .cons (v' := u') (vs' := vs') a b, x, v, e => by
    simp only [bindR] at e
    split at e
    · rename_i q; subst q; cases e; exact ⟨u', by simp, a⟩
    · ((first | refine x1_2 (bindR_at b e) fun v' m r => ?_ | obtain ⟨v', m, r⟩ := (bindR_at b e)))
      exact ⟨v', by simp only [List.map_cons, List.zip_cons_cons]; exact List.mem_cons_of_mem _ m, r⟩
theorem bindL_out {k : Str → Option NameKind} : ∀ (ps : List (Str × Value)) (m : Str → Option Value) (n : Str), n ∉ ps.map (·.1) → bindL k ps m n = m n
  | [], _, _, _ => rfl
  | (x, v) :: r, m, n, h => by
    unfold bindL
    rw [bindL_out r _ n fun q => h (List.mem_cons_of_mem _ q)]
    split
    · exact if_neg fun q => h (by rw [q]; exact List.mem_cons_self)
    · rfl
theorem bindL_at {k : Str → Option NameKind} : ∀ (ps : List (Str × Value)) (m : Str → Option Value) (n : Str) (v : Value), (n, v) ∈ ps → (ps.map (·.1)).Nodup → k n = some .local → bindL k ps m n = some v
  | (x, u) :: r, m, n, v, h, nd, hk => by
    rw [List.map_cons, List.nodup_cons] at nd
    unfold bindL
    rcases List.mem_cons.mp h with q | q
    · cases q
      rw [bindL_out r _ _ nd.1, if_pos hk]; exact if_pos rfl
    · exact bindL_at r _ n v q nd.2 hk
theorem bindC_out {k : Str → Option NameKind} : ∀ (ps : List (Str × Value)) (m : Str → Option Value) (n : Str), n ∉ ps.map (·.1) → bindC k ps m n = m n
  | [], _, _, _ => rfl
  | (x, v) :: r, m, n, h => by
    unfold bindC
    rw [bindC_out r _ n fun q => h (List.mem_cons_of_mem _ q)]
    split
    · rfl
    · exact if_neg fun q => h (by rw [q]; exact List.mem_cons_self)
theorem bindC_at {k : Str → Option NameKind} : ∀ (ps : List (Str × Value)) (m : Str → Option Value) (n : Str) (v : Value), (n, v) ∈ ps → (ps.map (·.1)).Nodup → k n ≠ some .local → bindC k ps m n = some v
  | (x, u) :: r, m, n, v, h, nd, hk => by
    rw [List.map_cons, List.nodup_cons] at nd
    unfold bindC
    rcases List.mem_cons.mp h with q | q
    · cases q
      rw [bindC_out r _ _ nd.1, if_neg hk]; exact if_pos rfl
    · exact bindC_at r _ n v q nd.2 hk
theorem VsRel.app {W : Wd} {a : List V} {a' : List Value} {b : List V} {b' : List Value} (x : VsRel W a a') (y : VsRel W b b') : VsRel W (a ++ b) (a' ++ b') := by
  induction a generalizing a' with
  | nil => cases x; exact y
  | cons v r ih => cases x with | cons p q => exact .cons p (ih q)
noncomputable def runBody (names : List String) (ds : List V) (k : Nat) (d : SDen) : List V → St → Option (V × St) := fun vs st =>
  if vs.length = k then (d (bindR names (vs ++ ds)) st).bind fun p => match p.1 with
    | .ret v => some (v, p.2.2)
    | .next => some (.none, p.2.2)
  else none
theorem get_beyond {h : Heap} {a : Addr} (n : h.objs.size ≤ a) : h.get? a = none := by
  cases z : h.get? a with
  | none => rfl
  | some o => exact absurd (Heap.lt_size z) (Nat.not_lt.mpr n)
structure FnFacts (c : Cx) (f : Addr) (fd : FuncData) (body : List Stmt) : Prop where
  at_ : ∃ o, c.h₀.get? f = some o ∧ o.data = .func fd
  body : fd.body = .stmts body
  code : c.h₀.CodeRec fd.code fd.qualname
  globals : fd.globals = mainGlobals
  builtins : fd.builtins = builtinsNs
  closure : fd.closure = []
  co : fd.scope.isCoroutine = false
  gen : fd.scope.isGenerator = false
  kind : fd.scope.kind = .function
  nofree : fd.scope.names.all (fun n => n.2 != .free) = true
theorem lookup_nofree : ∀ {ns : List (Str × NameKind)} {y : Str}, ns.all (fun n => n.2 != .free) = true → ns.lookup y ≠ some .free
  | [], _, _, q => by cases q
  | (n, k) :: r, y, h, q => by
    rw [List.all_cons, Bool.and_eq_true] at h
    rw [List.lookup_cons] at q
    split at q
    · cases q; exact absurd h.1 (by simp)
    · exact lookup_nofree h.2 q
theorem f_body {c : Cx} {lv k : Nat} {f : Addr} {fd : FuncData} {body : List Stmt} {names : List String} {d : SDen} {ds : List V} {ds' : List Value} (F : FnFacts c f fd body)
    (hds : ∀ W : Wd, (∀ (b : Addr) (o : Obj), c.h₀.get? b = some o → W.fz b = some o) → VsRel W ds ds')
    (hbind : ∀ (s : Shared) (vs : List Value), (∀ (b : Addr) (o : Obj), c.h₀.get? b = some o → s.heap.get? b = some o) → vs.length = k → BindsTo s fd ⟨vs, []⟩ ((names.map Str.ofString).zip (vs ++ ds')))
    (hnd : (names.map Str.ofString).Nodup) (hkind : ∀ x ∈ names, fd.scope.names.lookup (Str.ofString x) = some .local ∨ fd.scope.names.lookup (Str.ofString x) = some .cell)
    (hlen : names.length = k + ds.length) (hs : SSound c lv fd.scope body d) : FSound c (lv + 1) f (runBody names ds k d) := by
  intro A s W st st' vs vs' v rm iv rv q
  unfold runBody at q
  split at q
  rotate_left
  · cases q
  rename_i hk
  ((first | refine x1_2 F.at_ fun o ho hd => ?_ | refine x2_1 F.at_ fun o ho hd => ?_ | obtain ⟨o, ho, hd⟩ := F.at_))
  have base : ∀ (b : Addr) (p : Obj), c.h₀.get? b = some p → s.heap.get? b = some p := fun b p e => iv.froz b p (iv.base b p e)
  refine codeAny_call_function rm.limit (base f o ho) hd F.co F.gen F.body (F.code.keeps base) ?_
  refine hbind s vs' base (rv.length ▸ hk) _ _ _ _ ?_
  have rel : VsRel W (vs ++ ds) (vs' ++ ds') := rv.app (hds W iv.base)
  have zlen : ((names.map Str.ofString).zip (vs' ++ ds')).map (·.1) = names.map Str.ofString := by
    rw [List.map_fst_zip]
    rw [List.length_map, ← rel.length, List.length_append, hk, hlen]; exact Nat.le_refl _
  rw [F.closure]
  refine wpAny_newFunctionEnv_cells F.kind (fun x hx => ?_) fun env he s₁ x => ?_
  · have : x.1 ∈ names.map Str.ofString := by rw [← zlen]; exact List.mem_map_of_mem hx
    ((first | refine x1_2 (List.mem_map.mp this) fun n hn e => ?_ | refine x2_1 (List.mem_map.mp this) fun n hn e => ?_ | obtain ⟨n, hn, e⟩ := (List.mem_map.mp this)))
    rcases hkind n hn with q | q
    · exact .inl (e ▸ q)
    · exact .inr ⟨e ▸ q, e ▸ cellsFrom_some _ _ _ (.inl q)⟩
  refine ⟨(c.nolimit.keeps base).keeps x.toInCall.keep, codeAny_func ?_⟩
  ((first | refine x1_2 x.toInCall.same fun h₁ tk eE33 => ?_ | refine x2_1 x.toInCall.same fun h₁ tk eE33 => ?_ | obtain ⟨h₁, tk, eE33⟩ := x.toInCall.same); subst eE33)
  have keep := x.toInCall.keep
  have hL : env.locals = s.heap.objs.size := by rw [he]; rfl
  have hkd : ∀ y, env.kindOf y = fd.scope.names.lookup y := fun y => by rw [he]; rfl
  have above : ∀ y cc, env.cells.lookup y = some cc → s.heap.objs.size < cc := fun y cc q => hL ▸ x.above y cc (mem_of_lookup q)
  have fzout : ∀ a : Addr, s.heap.objs.size ≤ a → W.fz a = none := fun a n => by
    cases z : W.fz a with
    | none => rfl
    | some p => exact absurd (iv.fzlt z) (Nat.not_lt.mpr n)
  have φout : ∀ a : Addr, s.heap.objs.size ≤ a → a ∉ W.φ := fun a n m => absurd (iv.lt m) (Nat.not_lt.mpr n)
  have i₁ : Inv c.h₀ W st h₁ := iv.grow keep
  have t₁ : Step W s.heap W h₁ := Step.grow keep
  have nomine : ∀ (y : String) (us : List V), bindR names (vs ++ ds) y ≠ some (.own us) := fun y us q => by
    ((first | refine x1_2 (bindR_at rel q) fun v' _ r => ?_ | refine x2_1 (bindR_at rel q) fun v' _ r => ?_ | obtain ⟨v', _, r⟩ := (bindR_at rel q)))
    cases r
  have S : EnvS fd.scope env ⟨W, s, s.heap.get?⟩ W (bindR names (vs ++ ds)) h₁ := by
    refine ⟨⟨by rw [he]; exact F.kind, by rw [he]; exact F.globals, by rw [he]; exact F.builtins, fun y hy => by rw [hkd]; exact hy, fun y hy => ⟨by rw [hkd]; exact hy, ?_⟩, ⟨φout _ (hL ▸ Nat.le_refl _), ?_⟩, fun y cc q => ⟨φout _ (Nat.le_of_lt (above y cc q)), ?_⟩, fun y u q n => ?_⟩,
      get_beyond (hL ▸ Nat.le_refl _), fzout _ (hL ▸ Nat.le_refl _), ⟨_, x.toInCall.ns⟩, fun y hy => by rw [hkd]; exact hy, fun y hy => ?_, fun y z cc q q' => name_of_addr x.apart (mem_of_lookup q) (mem_of_lookup q'), fun y cc q => Nat.ne_of_gt (hL ▸ above y cc q), fun _ => 0, fun y us q => absurd q (nomine y us), fun y z us ws q => absurd q (nomine y us)⟩
    · have hy := hy.resolve_right (lookup_nofree F.nofree)
      have : (env.cells.lookup y).isSome = true := by rw [he]; exact cellsFrom_some _ _ _ (.inl hy)
      exact Option.isSome_iff_exists.mp this
    · ((first | refine x3_2 x.toInCall.ns fun p es ep q _ => ?_ | obtain ⟨p, es, ep, q, _⟩ := x.toInCall.ns)); exact ⟨p, q⟩
    · ((first | refine x1_2 (x.cell y cc q) fun p q' _ => ?_ | refine x2_1 (x.cell y cc q) fun p q' _ => ?_ | obtain ⟨p, q', _⟩ := (x.cell y cc q))); exact ⟨p, q'⟩
    · ((first | refine x1_2 (bindR_at rel q) fun v' m r => ?_ | refine x2_1 (bindR_at rel q) fun v' m r => ?_ | obtain ⟨v', m, r⟩ := (bindR_at rel q)))
      have hm : Str.ofString y ∈ names.map Str.ofString := by rw [← zlen]; exact List.mem_map_of_mem m
      ((first | refine x1_2 (List.mem_map.mp hm) fun n' hn' e' => ?_ | refine x2_1 (List.mem_map.mp hm) fun n' hn' e' => ?_ | obtain ⟨n', hn', e'⟩ := (List.mem_map.mp hm)))
      have nd := zlen ▸ hnd
      refine ⟨v', ?_, r⟩
      rcases hkind n' hn' with z | z
      · rw [e'] at z
        have z' : env.kindOf (Str.ofString y) = some .local := by rw [hkd]; exact z
        exact .inl ⟨z', _, x.toInCall.ns, bindL_at _ _ _ _ m (by rw [zlen]; exact hnd) z'⟩
      · rw [e'] at z
        have z' : env.kindOf (Str.ofString y) = some .cell := by rw [hkd]; exact z
        have : (env.cells.lookup (Str.ofString y)).isSome = true := by rw [he]; exact cellsFrom_some _ _ _ (.inl z)
        ((first | refine x0_2 (Option.isSome_iff_exists.mp this) fun cc hc => ?_ | refine x1_1 (Option.isSome_iff_exists.mp this) fun cc hc => ?_ | obtain ⟨cc, hc⟩ := (Option.isSome_iff_exists.mp this)))
        have hb := bindC_at (k := env.kindOf) _ (fun _ => none) (Str.ofString y) v' m (by rw [zlen]; exact hnd) (by rw [z']; decide)
        exact .inr ⟨.inl z', cc, hc, hb ▸ x.cell _ cc hc⟩
    · refine ⟨by rw [hkd]; exact hy, ?_⟩
      have : (env.cells.lookup y).isSome = true := by rw [he]; exact cellsFrom_some _ _ _ (.inl hy)
      ((first | refine x0_2 (Option.isSome_iff_exists.mp this) fun cc hc => ?_ | refine x1_1 (Option.isSome_iff_exists.mp this) fun cc hc => ?_ | obtain ⟨cc, hc⟩ := (Option.isSome_iff_exists.mp this)))
      ((first | refine x1_2 (x.cell y cc hc) fun p q1 q2 => ?_ | refine x2_1 (x.cell y cc hc) fun p q1 q2 => ?_ | obtain ⟨p, q1, q2⟩ := (x.cell y cc hc)))
      exact ⟨cc, p, _, hc, q1, q2, fzout _ (Nat.le_of_lt (above y cc hc)), get_beyond (Nat.le_of_lt (above y cc hc))⟩
  refine bindT q fun fl ρ' st₂ q₁ q => ?_
  refine wpAny_mono (hs (A.deeper env) env ⟨W, s, s.heap.get?⟩ { s with heap := h₁, toks := tk } W _ ρ' st st₂ fl (rm.deeper (Nat.le_refl _)) S i₁ t₁ ⟨rfl, rfl⟩ q₁) (fun flow s' h => ?_) fun _ _ f => f.elim
  ((first | refine x3_2 h fun W' i' t' z' r' => ?_ | obtain ⟨W', i', t', z', r'⟩ := h); try clear h)
  cases fl with
  | next =>
    cases q
    ((first | refine x0_2 r' fun eE34 _ => ?_ | refine x1_1 r' fun eE34 _ => ?_ | obtain ⟨eE34, _⟩ := r'); try clear r'; subst eE34)
    exact ⟨.none, rfl, W', i', t', z', .none⟩
  | ret u =>
    cases q
    ((first | refine x1_2 r' fun v' eE35 rv => ?_ | refine x2_1 r' fun v' eE35 rv => ?_ | obtain ⟨v', eE35, rv⟩ := r'); try clear r'; subst eE35)
    exact ⟨v', rfl, W', i', t', z', rv⟩
section
variable {c : Cx} {lv : Nat} {sc : Scope}
theorem FSound.less {f : Addr} {d : List V → St → Option (V × St)} {a b : Nat} (h : FSound c a f d) (l : a ≤ b) : FSound c b f d :=
  fun A s W st st' vs vs' v rm => h A s W st st' vs vs' v (rm.less l)
noncomputable def GlobFn (c : Cx) (x : Str) (f : Addr) : Prop := (∃ mg, c.h₀.Ns mainGlobals mg ∧ mg x = some (.ref f)) ∧ ∃ o fd, c.h₀.get? f = some o ∧ o.data = .func fd
theorem name_glob {A : Around} {env : Env} {s : Shared} {W : Wd} {ρ : Rho} {st : St} {x : Str} {p : Pos} {v : Value} {Q : Value → Shared → Prop} {E : Value → Shared → Prop} (eo : EnvOk sc env W ρ s.heap) (iv : Inv c.h₀ W st s.heap)
    (g : ∃ mg, c.h₀.Ns mainGlobals mg ∧ mg x = some v) (hx : sc.names.lookup x = some .globalImplicit) (h : Q v s) (hd : (x == ("__debug__" : Str)) = false) : wpAny c.M A (eval (.Name x p) env) Q E s := by
  ((first | refine x1_2 g fun mg n q => ?_ | obtain ⟨mg, n, q⟩ := g); try clear g)
  exact Name_function_global eo.kind (eo.glob x hx) (loadGlobal_global (by rw [eo.globals]; exact n.keeps fun b o e => iv.froz b o (iv.base b o e)) q h) hd
noncomputable def dCall (d : List V → St → Option (V × St)) (r : Den (List V)) : Den V := fun ρ st => (r ρ st).bind fun q => d q.1 q.2
theorem evalArgs_nil {M : Model} {A : Around} {E : Value → Shared → Prop} {s : Shared} {f : Value} {Q : Args → Shared → Prop} (h : wpAny M A (spliced []) (fun vs s' => Q ⟨vs, []⟩ s') E s) : wpAny M A (evalArgs f true [] []) Q E s := by
  unfold evalArgs
  show wpAny M A (spliced [] >>= _) Q E s
  refine wpAny_bind (wpAny_mono h (fun vs s' h' => ?_) fun _ _ x => x)
  refine wpAny_bind (wpAny_pure ?_)
  refine wpAny_holding ?_
  exact wpAny_bind (wpAny_pure (wpAny_bind (wpAny_pure (wpAny_pure h'))))
/-- the arguments, then the call -/
theorem args_then {A : Around} {env : Env} {s : Shared} {W : Wd} {ρ : Rho} {st st' : St} {vs : List V} {args : List Expr} {r : Den (List V)} {f : Value} {pos : Pos} {Q : Args → Shared → Prop} {E : Value → Shared → Prop} (rm : Room A lv) (eo : EnvOk sc env W ρ s.heap) (iv : Inv c.h₀ W st s.heap)
    (hr : EsSound c lv sc args r) (q : r ρ st = some (vs, st')) (hns : args = [] ∨ ∃ x rest, backTo pos (starEach args env) = (false, x) :: rest)
    (h : ∀ W' vs' s', Inv c.h₀ W' st' s'.heap → Step W s.heap W' s'.heap → Same s s' → VsRel W' vs vs' → Q ⟨vs', []⟩ s') :
    wpAny c.M A (evalArgs f true (backTo pos (starEach args env)) []) Q E s := by
  have z := (hr A env s W ρ st st' vs pos rm eo iv q).to (Q := fun vs s' => Q ⟨vs, []⟩ s') (E := E) fun W₁ a s₁ i y z r => h W₁ a s₁ i y z r
  rcases hns with e | ⟨x, rest, e⟩
  · subst e; exact evalArgs_nil z
  · rw [e] at z ⊢; exact evalArgs_plain z
theorem call_of {A : Around} {s : Shared} {W : Wd} {st st' : St} {vs : List V} {vs' : List Value} {v : V} {f : Addr} {d : List V → St → Option (V × St)} {Q : Value → Shared → Prop} {E : Value → Shared → Prop} (rm : Room A lv) (iv : Inv c.h₀ W st s.heap) (fs : FSound c lv f d)
    (rv : VsRel W vs vs') (q : d vs st = some (v, st')) (h : ∀ W' v' s', Inv c.h₀ W' st' s'.heap → Step W s.heap W' s'.heap → Same s s' → VRel W' v v' → Q v' s') : wpAny c.M A (call (.ref f) vs' []) Q E s :=
  wpAny_call (codeAny_mono (fs A s W st st' vs vs' v rm iv rv q) fun r s' ⟨v', e, W', i, y, z, rr⟩ => by subst e; exact h W' v' s' i y z rr)
noncomputable def NoStar (args : List Expr) : Prop := ∀ env pos, args = [] ∨ ∃ x rest, backTo pos (starEach args env) = (false, x) :: rest
theorem e_callF {x : Str} {p pos : Pos} {args : List Expr} {f : Addr} {d : List V → St → Option (V × St)} {r : Den (List V)} {lf : Nat} (g : GlobFn c x f) (fs : FSound c lf f d) (hl : lf ≤ lv) (hr : EsSound c lv sc args r)
    (hx : sc.names.lookup x = some .globalImplicit) (hns : NoStar args) (hd : (x == ("__debug__" : Str)) = false) : ESound c lv sc (.Call (.Name x p) args [] pos) (dCall d r) := by
  intro A env s W ρ st st' v rm eo iv q
  refine bindP q fun vs st₁ q₁ q => ?_
  ((first | refine x2_2 g.2 fun o fd ho hdat => ?_ | obtain ⟨o, fd, ho, hdat⟩ := g.2))
  refine wpAny_Call_Name_kw (name_glob eo iv g.1 hx ?_ hd)
  refine callWith_function (o := o) (fd := fd) (args_then rm eo iv hr q₁ (hns env pos) fun W₁ vs' s₁ i₁ y₁ z₁ r₁ => ⟨⟨i₁.froz _ _ (i₁.base _ _ ho), hdat⟩, ?_⟩)
  exact call_of (rm.less hl |> fun r => r) i₁ fs r₁ q fun W₂ v' s₂ i₂ y₂ z₂ r₂ => ⟨W₂, i₂, y₁.trans y₂, z₁.trans z₂, r₂⟩
end
end Mine
namespace Mine
/-! attributes -/
theorem isStr_iff (x : Str) (t : Tok) (y : Str) : (Value.str x t).isStr y = (x == y) := rfl
theorem fs_find {W : Wd} {fs : List (String × V)} {es : List DictEntry} (r : FsRel W fs es) {x : String} : (match fs.lookup x with
    | some v => ∃ e, es.find? (·.key.isStr (Str.ofString x)) = some e ∧ VRel W v e.val
    | none => es.find? (·.key.isStr (Str.ofString x)) = none) ∧ es.any (·.refKey) = false := by
  induction fs generalizing es with
  | nil => cases r; exact ⟨rfl, rfl⟩
  | cons p fs ih =>
    ((first | refine x0_2 p fun y u => ?_ | obtain ⟨y, u⟩ := p); try clear p)
    cases r with
    | cons a b =>
      rename_i hh tt u' es'
      ((first | refine x0_2 (ih b) fun ih1 ih2 => ?_ | obtain ⟨ih1, ih2⟩ := (ih b)))
      refine ⟨?_, by rw [List.any_cons, ih2]; rfl⟩
      rw [List.lookup_cons, List.find?_cons, isStr_iff]
      by_cases e : x = y
      · subst e; simp only [beq_self_eq_true]; exact ⟨_, rfl, a⟩
      · have n1 : (x == y) = false := beq_eq_false_iff_ne.mpr e
        have n2 : (Str.ofString y == Str.ofString x) = false := beq_eq_false_iff_ne.mpr fun q => e (ofString_inj q.symm)
        simp only [n1, n2]; exact ih1
theorem getL_some {W : Wd} {fs : List (String × V)} {es : List DictEntry} (r : FsRel W fs es) {x : String} {v : V} (h : fs.lookup x = some v) : ∃ v', getL (Str.ofString x) es = some (some v') ∧ VRel W v v' := by
  have := (fs_find r (x := x)).1
  rw [h] at this
  ((first | refine x1_2 this fun e q z => ?_ | obtain ⟨e, q, z⟩ := this); try clear this)
  exact ⟨e.val, by unfold getL; rw [q], z⟩
theorem getL_none {W : Wd} {fs : List (String × V)} {es : List DictEntry} (r : FsRel W fs es) {x : String} (h : fs.lookup x = none) : getL (Str.ofString x) es = some none := by
  ((first | refine x0_2 (fs_find r (x := x)) fun a b => ?_ | obtain ⟨a, b⟩ := (fs_find r (x := x))))
  rw [h] at a
  dsimp only at a
  unfold getL
  rw [a]
  dsimp only
  rw [b]; rfl
theorem handed_of {W : Wd} {v : V} {v' : Value} (r : VRel W v v') : handedIn v' = true := by cases r <;> rfl
/-- what is asked of the written part for a plain attribute -/
theorem Inv.K {c : Cx} {W : Wd} {st : St} {h : Heap} (iv : Inv c.h₀ W st h) : c.K.In h := c.inK.keeps fun b o e => iv.froz b o (iv.base b o e)
section
variable {c : Cx} {lv : Nat} {sc : Scope}
noncomputable def vFields : V → St → Option (List (String × V))
  | .obj _ fs, _ => some fs
  | .self _ i, st => match st[i]? with
    | some (.fields fs) => some fs
    | _ => none
  | _, _ => none
noncomputable def vAttr (x : String) (v : V) (st : St) : Option V := (vFields v st).bind fun fs => fs.lookup x
noncomputable def dAttr (x : String) (a : Den V) : Den V := fun ρ st => (a ρ st).bind fun p => (vAttr x p.1 p.2).map fun v => (v, p.2)
/-- the object behind a value -/
theorem inst_of {W : Wd} {st : St} {h : Heap} {v : V} {v' : Value} (iv : Inv c.h₀ W st h) (r : VRel W v v') (fs : List (String × V)) (hf : vFields v st = some fs) :
    ∃ x C dx es n, v' = .ref x ∧ C ∈ classList ∧ InstAt h x (instObj C dx) C (some (dictOf es n)) ∧ FsRel W fs es ∧ (∀ D g, v = .obj D g → D = C) ∧ ∀ D i, v = .self D i → D = C ∧ W.φ[i]? = some dx := by
  cases r <;> simp only [vFields] at hf <;> try (cases hf; done)
  case obj x C dx es n g k a b d =>
    cases hf
    exact ⟨x, C, dx, es, n, rfl, k, ⟨iv.froz _ _ a, rfl, rfl, iv.froz _ _ b⟩, d, (fun D g e => by cases e; rfl), (fun D i e => by cases e)⟩
  case self x C dx i k a b =>
    split at hf
    · rename_i g hs
      cases hf
      ((first | refine x1_2 (iv.live i dx _ b hs) fun o q m => ?_ | obtain ⟨o, q, m⟩ := (iv.live i dx _ b hs)))
      cases m with
      | fields m => exact ⟨x, C, dx, _, _, rfl, k, ⟨iv.froz _ _ a, rfl, rfl, q⟩, m, (fun D g e => by cases e), (fun D i e => by cases e; exact ⟨rfl, b⟩)⟩
    · cases hf
theorem attr_get {A : Around} {s : Shared} {W : Wd} {st : St} {v u : V} {v' : Value} {x : String} {ex : Bool} (iv : Inv c.h₀ W st s.heap) (r : VRel W v v') (q : vAttr x v st = some u) (ok : ∀ C ∈ classList, attrOk c.K C x = true) :
    Does c.M c.h₀ A (getAttr v' (Str.ofString x) ex) W s st (fun W' u' => VRel W' u u') := by
  refine bindO q fun fs hf hl => ?_
  ((first | refine x5_5 (inst_of iv r fs hf) fun a C dx es n eE36 hC I fr _ => ?_ | obtain ⟨a, C, dx, es, n, eE36, hC, I, fr, _⟩ := (inst_of iv r fs hf)); subst eE36)
  have k := ok C hC
  unfold attrOk at k
  simp only [Bool.and_eq_true] at k
  ((first | refine x0_2 k fun xE37 k3 => ?_ | obtain ⟨xE37, k3⟩ := k); try clear k; ((first | refine x0_2 xE37 fun k1 k2 => ?_ | obtain ⟨k1, k2⟩ := xE37); try clear xE37))
  split at k3
  · rename_i attr ha
    ((first | refine x1_2 (getL_some fr hl) fun u' g1 g2 => ?_ | obtain ⟨u', g1, g2⟩ := (getL_some fr hl)))
    exact get_value iv.K I (plainGet_of k1).1 (findObj_own k2 ha k3 (by rw [lookIn_dict]; exact g1)) (handed_of g2) (endHere iv g2 _)
  · cases k3
theorem e_attr {o : Expr} {x : String} {pos : Pos} {a : Den V} (ha : ESound c lv sc o a) (ok : ∀ C ∈ classList, attrOk c.K C x = true)
    (he : ∀ env, eval (.Attribute o (Str.ofString x) pos) env = (do
      let ov ← eval o env
      standAt pos.atName
      let r ← holding [ov] (getAttr ov (Str.ofString x) true)
      letTemporaryGo o ov r
      pure r)) : ESound c lv sc (.Attribute o (Str.ofString x) pos) (dAttr x a) := by
  intro A env s W ρ st st' v rm eo iv q
  refine hide fun G kG => ?_
  refine bindP q fun u st₁ q₁ q => ?_
  refine mapO q fun u' q₂ q => ?_
  cases q
  refine kG ?_
  refine Attribute_any_ ((ha A env s W ρ st st₁ u rm eo iv q₁).to fun W₁ a₁ s₁ i₁ y₁ z₁ r₁ => ?_) (he env)
  exact (attr_get i₁ r₁ q₂ ok).to fun W₂ a₂ s₂ i₂ y₂ z₂ r₂ => ⟨W₂, i₂, y₁.trans y₂, z₁.trans z₂, r₂⟩
/-! methods -/
noncomputable def vHasNot (x : String) (v : V) (st : St) : Bool := (vFields v st).any fun fs => (fs.lookup x).isNone
noncomputable def vClass : V → Option Addr
  | .obj C _ => some C
  | .self C _ => some C
  | _ => none
/-- o.x(args): the class says which def -/
noncomputable def dMeth (x : String) (ds : Addr → Option (List V → St → Option (V × St))) (a : Den V) (r : Den (List V)) : Den V := fun ρ st => (a ρ st).bind fun p => if vHasNot x p.1 p.2 then
    (vClass p.1).bind fun C => (ds C).bind fun d => (r ρ p.2).bind fun q => d (p.1 :: q.1) q.2 else none
theorem e_meth {o : Expr} {x : String} {apos pos : Pos} {args : List Expr} {a : Den V} {r : Den (List V)} {ds : Addr → Option (List V → St → Option (V × St))} {lf : Nat} (ha : ESound c lv sc o a) (hr : EsSound c lv sc args r)
    (ok : ∀ C d, ds C = some d → ∃ f, methOk c.K C x f = true ∧ FSound c lf f d ∧ ∃ o fd, c.h₀.get? f = some o ∧ o.data = .func fd) (hl : lf ≤ lv) (hns : NoStar args)
    (he : ∀ env, ∃ pl, eval (.Call (.Attribute o (Str.ofString x) apos) args [] pos) env = (do
      let ov ← eval o env
      standAt apos.atName
      let (f, first) ← holding [ov] (getMethod ov (Str.ofString x) pl)
      callWith pos f first (backTo pos (starEach args env)) (backToKw pos (keywordEach [] env)))) : ESound c lv sc (.Call (.Attribute o (Str.ofString x) apos) args [] pos) (dMeth x ds a r) := by
  intro A env s W ρ st st' v rm eo iv q
  refine hide fun G kG => ?_
  refine bindP q fun u st₁ q₁ p₁ => ?_
  dsimp only at p₁
  split at p₁
  rotate_left
  · cases p₁
  rename_i hno
  refine bindO p₁ fun C q₂ p₂ => ?_
  refine bindO p₂ fun d q₃ p₃ => ?_
  refine bindP p₃ fun vs st₂ q₄ p₄ => ?_
  ((first | refine x0_2 (he env) fun pl he => ?_ | refine x1_1 (he env) fun pl he => ?_ | obtain ⟨pl, he⟩ := (he env)))
  ((obtain ⟨f, mk, fs, of, fd, hof, hfd⟩ := (ok C d q₃)))
  refine kG ?_
  refine methodCall_KW (pl := pl) ((ha A env s W ρ st st₁ u rm eo iv q₁).to fun W₁ a₁ s₁ i₁ y₁ z₁ r₁ => ?_) he
  ((first | refine x1_2 (any_some hno) fun g hg hl' => ?_ | obtain ⟨g, hg, hl'⟩ := (any_some hno)))
  ((obtain ⟨b, C', dx, es, n, eE38, hC, I, fr, hc1, hc2⟩ := (inst_of i₁ r₁ g hg)); subst eE38)
  have hCC : C' = C := by
    cases u <;> simp only [vClass] at q₂ <;> first | (cases q₂; exact (hc1 _ _ rfl).symm) | (cases q₂; exact (hc2 _ _ rfl).1.symm) | cases q₂
  subst hCC
  unfold methOk at mk
  simp only [Bool.and_eq_true, beq_iff_eq] at mk
  ((first | refine x0_2 mk fun xE39 m3 => ?_ | refine x1_1 mk fun xE39 m3 => ?_ | obtain ⟨xE39, m3⟩ := mk); try clear mk; ((first | refine x0_2 xE39 fun m1 m2 => ?_ | refine x1_1 xE39 fun m1 m2 => ?_ | obtain ⟨m1, m2⟩ := xE39); try clear xE39))
  refine method_fn i₁.K I (plainGet_of m1).1 (plainGet_of m1).2 m2 (beq_iff_eq.mp m3) (by show (lookIn _ (dictOf es n)).map _ = _; rw [lookIn_dict, getL_none fr (Option.isNone_iff_eq_none.mp hl')]; rfl) ?_
  refine callWith_function (o := of) (fd := fd) (args_then rm (eo.step y₁) i₁ hr q₄ (hns env pos) fun W₂ vs' s₂ i₂ y₂ z₂ r₂ => ⟨⟨i₂.froz _ _ (i₂.base _ _ hof), hfd⟩, ?_⟩)
  exact call_of (rm.less hl) i₂ fs (.cons (r₁.mono y₂.le) r₂) p₄ fun W₃ v' s₃ i₃ y₃ z₃ r₃ => ⟨W₃, i₃, (y₁.trans y₂).trans y₃, (z₁.trans z₂).trans z₃, r₃⟩
/-! storing into an object being made -/
theorem putL_new {W : Wd} {fs : List (String × V)} {es : List DictEntry} (r : FsRel W fs es) {x : String} (h : fs.lookup x = none) (hh : Int) (t : Tok) {v : V} {v' : Value} (rv : VRel W v v') :
    FsRel W (fs ++ [(x, v)]) (putL (Str.ofString x) hh (.str (Str.ofString x) t) v' es) := by
  induction fs generalizing es with
  | nil => cases r; exact .cons rv .nil
  | cons p fs ih =>
    ((obtain ⟨y, u⟩ := p); try clear p)
    cases r with
    | cons a b =>
      rw [List.lookup_cons] at h
      have e : (x == y) = false := by
        cases z : x == y with
        | false => rfl
        | true => rw [z] at h; cases h
      rw [e] at h
      unfold putL
      rw [isStr_iff]
      have n2 : (Str.ofString y == Str.ofString x) = false := beq_eq_false_iff_ne.mpr fun q => (beq_eq_false_iff_ne.mp e) (ofString_inj q.symm)
      rw [if_neg (by rw [n2]; exact Bool.false_ne_true)]
      exact .cons a (ih b h)
theorem FsRel.length {W : Wd} {fs : List (String × V)} {es : List DictEntry} (r : FsRel W fs es) : fs.length = es.length := by
  induction fs generalizing es with
  | nil => cases r; rfl
  | cons p fs ih => cases r with | cons a b => simp [ih b]
theorem nodup_idx {α : Type} {l : List α} (n : l.Nodup) {i j : Nat} {a : α} (hi : l[i]? = some a) (hj : l[j]? = some a) : i = j := by
  ((obtain ⟨l1, e1⟩ := (List.getElem?_eq_some_iff.mp hi)))
  ((obtain ⟨l2, e2⟩ := (List.getElem?_eq_some_iff.mp hj)))
  rcases Nat.lt_trichotomy i j with h | h | h
  · exact absurd (e1.trans e2.symm) (List.pairwise_iff_getElem.mp n i j l1 l2 h)
  · exact h
  · exact absurd (e2.trans e1.symm) (List.pairwise_iff_getElem.mp n j i l2 l1 h)
theorem Inv.setField {h₀ : Heap} {W : Wd} {st : St} {h : Heap} (iv : Inv h₀ W st h) {i : Nat} {dx : Addr} {m m' : MO} {f : Obj → Obj} {o : Obj} (hi : W.φ[i]? = some dx) (hs : st[i]? = some m) (ho : h.get? dx = some o) (hf : (f o).isFreed = false) (r : MRel W m' (f o)) (nd : m ≠ .dead) :
    Inv h₀ W (st.set i m') (h.update dx f) ∧ Step W h W (h.update dx f) := by
  have mem : dx ∈ W.φ := List.mem_of_getElem? hi
  have fz0 := iv.free i dx m hi hs nd
  have ne : ∀ (b : Addr) (p : Obj), W.fz b = some p → b ≠ dx := fun b p q z => by rw [z, fz0] at q; cases q
  refine ⟨⟨iv.base, fun b p q => (Heap.get?_update_ne _ _ _ _ (ne b p q)).trans (iv.froz b p q), by rw [iv.len, List.length_set], iv.nodup, fun j a mm hj hm nd' => ?_, fun j a mm hj hm => ?_⟩,
    ⟨fun b p q n => (Heap.get?_update_ne _ _ _ _ fun z => n (by rw [z]; exact mem)).trans q, fun b p q => ?_, fun _ _ q => q, fun _ _ _ _ => rfl, [], by simp, by simp⟩⟩
  · by_cases e : j = i
    · subst e; rw [hi] at hj; cases hj; exact fz0
    · rw [List.getElem?_set_ne (Ne.symm e)] at hm; exact iv.free j a mm hj hm nd'
  · by_cases e : j = i
    · subst e
      rw [hi] at hj; cases hj
      rw [List.getElem?_set_self (List.getElem?_eq_some_iff.mp hs).1] at hm
      cases hm
      exact ⟨f o, Heap.get?_update_self _ ho hf, r⟩
    · rw [List.getElem?_set_ne (Ne.symm e)] at hm
      ((first | refine x1_2 (iv.live j a mm hj hm) fun p q t => ?_ | obtain ⟨p, q, t⟩ := (iv.live j a mm hj hm)))
      have : a ≠ dx := fun z => by
        subst z
        exact e (nodup_idx iv.nodup hj hi)
      exact ⟨p, (Heap.get?_update_ne _ _ _ _ this).trans q, t⟩
  · by_cases e : b = dx
    · subst e; exact ⟨f o, Heap.get?_update_self _ ho hf⟩
    · exact ⟨p, (Heap.get?_update_ne _ _ _ _ e).trans q⟩
end
end Mine
namespace Mine
/-! making an object -/
theorem Inv.kill {h₀ : Heap} {W : Wd} {st : St} {h : Heap} (iv : Inv h₀ W st h) {i : Nat} {dx : Addr} {o : Obj} (hi : W.φ[i]? = some dx) (ho : h.get? dx = some o) (fz0 : W.fz dx = none) :
    Inv h₀ (W.freeze dx o) (st.set i .dead) h ∧ Step W h (W.freeze dx o) h := by
  have mem : dx ∈ W.φ := List.mem_of_getElem? hi
  have ne : ∀ (b : Addr) (p : Obj), W.fz b = some p → b ≠ dx := fun b p q z => by rw [z, fz0] at q; cases q
  have le : ∀ (b : Addr) (p : Obj), W.fz b = some p → (W.freeze dx o).fz b = some p := fun b p q => by
    show (if b = dx then some o else W.fz b) = some p
    rw [if_neg (ne b p q)]; exact q
  have L : W.Le (W.freeze dx o) := ⟨le, fun _ _ q => q⟩
  refine ⟨⟨fun b p q => le b p (iv.base b p q), fun b p q => ?_, by rw [List.length_set]; exact iv.len, iv.nodup, fun j a m hj hm nd => ?_, fun j a m hj hm => ?_⟩,
    ⟨fun b p q _ => q, fun b p q => ⟨p, q⟩, le, fun b p q n => if_neg fun z => n (by rw [z]; exact mem), [], by simp [Wd.freeze], by simp⟩⟩
  · change (if b = dx then some o else W.fz b) = some p at q
    split at q
    · rename_i z; subst z; cases q; exact ho
    · exact iv.froz b p q
  · change W.φ[j]? = some a at hj
    by_cases e : j = i
    · subst e
      rw [List.getElem?_set] at hm
      split at hm
      · split at hm
        · cases hm; exact absurd rfl nd
        · cases hm
      · rename_i z; exact absurd rfl z
    · rw [List.getElem?_set_ne (Ne.symm e)] at hm
      show (if a = dx then some o else W.fz a) = none
      rw [if_neg fun z => e (nodup_idx iv.nodup (by rw [← z]; exact hj) hi)]
      exact iv.free j a m hj hm nd
  · change W.φ[j]? = some a at hj
    by_cases e : j = i
    · subst e
      rw [hi] at hj; cases hj
      rw [List.getElem?_set] at hm
      split at hm
      · split at hm
        · cases hm; exact ⟨o, ho, .dead⟩
        · cases hm
      · rename_i z; exact absurd rfl z
    · rw [List.getElem?_set_ne (Ne.symm e)] at hm
      ((first | refine x1_2 (iv.live j a m hj hm) fun p x y => ?_ | obtain ⟨p, x, y⟩ := (iv.live j a m hj hm)))
      exact ⟨p, x, y.mono L⟩
theorem tc_weight (C : Addr) (rest : List Value) (kw : List (Str × Value)) : (Code.builtin "type.__call__" ⟨.ref C :: rest, kw⟩).weight = 1 := by rfl
theorem tc_units (C : Addr) (rest : List Value) (kw : List (Str × Value)) : (Code.builtin "type.__call__" ⟨.ref C :: rest, kw⟩).cUnits = 1 := by rfl
theorem Room.make {A : Around} {a b : Nat} {C : Addr} {rest : List Value} {kw : List (Str × Value)} (r : Room A b) (h : a + 1 ≤ b) : Room (A.under (.builtin "type.__call__" ⟨.ref C :: rest, kw⟩)) a :=
  ⟨r.handled, by have := r.depth; show A.depth + Code.weight _ + _ < _; rw [tc_weight]; lia, by have := r.units; show A.units + Code.cUnits _ + _ < _; rw [tc_units]; lia⟩
section
variable {c : Cx} {lv : Nat} {sc : Scope}
noncomputable def dNew (C : Addr) (d : List V → St → Option (V × St)) (r : Den (List V)) : Den V := fun ρ st => (r ρ st).bind fun q => (d (.self C q.2.length :: q.1) (q.2 ++ [.fields []])).bind fun p =>
  match p.1, p.2[q.2.length]? with
  | .none, some (.fields fs) => some (.obj C fs, p.2.set q.2.length .dead)
  | _, _ => none
noncomputable def GlobRef (c : Cx) (x : Str) (a : Addr) : Prop := ∃ mg, c.h₀.Ns mainGlobals mg ∧ mg x = some (.ref a)
theorem e_new {x : Str} {p pos : Pos} {args : List Expr} {C fI : Addr} {d : List V → St → Option (V × St)} {r : Den (List V)} {lf : Nat} (g : GlobRef c x C) (hC : C ∈ classList) (ok : initOk c.K C fI = true) (fs : FSound c lf fI d) (hl : lf + 1 ≤ lv) (hr : EsSound c lv sc args r)
    (hx : sc.names.lookup x = some .globalImplicit) (hns : NoStar args) (hp : ∀ env, (backTo pos (starEach args env)).any (·.1) = false) (hd : (x == ("__debug__" : Str)) = false) : ESound c lv sc (.Call (.Name x p) args [] pos) (dNew C d r) := by
  intro A env s W ρ st st' v rm eo iv q
  refine hide fun G kG => ?_
  unfold initOk at ok
  simp only [Bool.and_eq_true, beq_iff_eq] at ok
  obtain ⟨⟨⟨k1, k2⟩, k3⟩, k4⟩ := ok
  refine bindP q fun vs st₁ q₁ p₁ => ?_
  refine bindP p₁ fun u st₂ q₂ p₂ => ?_
  refine kG ?_
  obtain ⟨fl, rfl, hst, rfl, rfl⟩ : ∃ fl, u = .none ∧ st₂[st₁.length]? = some (.fields fl) ∧ v = .obj C fl ∧ st' = st₂.set st₁.length .dead := by
    dsimp only at p₂
    split at p₂
    · rename_i fl hst; cases p₂; exact ⟨fl, rfl, hst, rfl, rfl⟩
    · cases p₂
  refine wpAny_Call_Name_kw (name_glob eo iv g hx ?_ hd)
  refine callWith_of (P := fun h => c.K.In h) (by rw [hp env]; rfl) (keeps_K k4) (args_then rm eo iv hr q₁ (hns env pos) fun W₁ vs' s₁ i₁ y₁ z₁ r₁ => ⟨i₁.K, ?_⟩)
  obtain ⟨hh, gg, dd, tt, oo⟩ := s₁
  dsimp only at i₁ y₁
  have i₂ := (i₁.alloc emptyDict (.fields []) rfl (.fields .nil))
  obtain ⟨i₂, y₂⟩ := i₂
  obtain ⟨i₃, y₃⟩ := i₂.push (instObj C hh.objs.size) rfl
  rw [Heap.size_push] at i₃ y₃
  have hφ : ((W₁.add hh.objs.size).freeze (hh.objs.size + 1) (instObj C hh.objs.size)).φ[st₁.length]? = some hh.objs.size := by
    show (W₁.φ ++ [hh.objs.size])[st₁.length]? = _
    rw [← i₁.len, List.getElem?_append_right (Nat.le_refl _)]; simp
  have rs : VRel ((W₁.add hh.objs.size).freeze (hh.objs.size + 1) (instObj C hh.objs.size)) (.self C st₁.length) (.ref (hh.objs.size + 1)) := .self hC (Wd.freeze_self _ _ _) hφ
  refine wpAny_call ?_
  refine make_core (makes_of i₁.K k1) (looks_findIn i₁.K k2) (fun self => bind_fn i₁.K self k3) (.inl rfl) ?_
  refine codeAny_mono (fs _ ⟨(hh.push emptyDict).push (instObj C hh.objs.size), gg, dd, tt, oo⟩ _ _ _ _ _ _ (rm.make hl) i₃ (.cons rs ((r₁.mono y₂.le).mono y₃.le)) q₂) fun rr s' ⟨v', e, W', i₄, y₄, z₄, r₄⟩ => ?_
  subst e
  cases r₄
  refine ⟨rfl, ?_⟩
  show ∃ W', _
  have hφ' := y₄.le.φ _ _ hφ
  obtain ⟨o, ho, mr⟩ := i₄.live _ _ _ hφ' hst
  have f0 := i₄.free _ _ _ hφ' hst (by intro z; cases z)
  obtain ⟨i₅, y₅⟩ := i₄.kill hφ' ho f0
  refine ⟨_, i₅, (((y₁.trans y₂).trans y₃).trans y₄).trans y₅, ⟨z₄.gens.trans z₁.gens, z₄.os.trans z₁.os⟩, ?_⟩
  cases mr with
  | fields fr =>
    exact .obj hC (y₅.fz _ _ (y₄.fz _ _ (Wd.freeze_self _ _ _))) (Wd.freeze_self _ _ _) (fr.mono y₅.le)
/-- a class without an __init__ of its own -/
theorem e_new0 {x : Str} {p pos : Pos} {C : Addr} (g : GlobRef c x C) (hC : C ∈ classList) (ok : init0Ok c.K C = true)
    (hx : sc.names.lookup x = some .globalImplicit) (hd : (x == ("__debug__" : Str)) = false) : ESound c lv sc (.Call (.Name x p) [] [] pos) (dVal (.obj C [])) := by
  intro A env s W ρ st st' v rm eo iv q
  refine hide fun G kG => ?_
  cases q
  unfold init0Ok at ok
  simp only [Bool.and_eq_true, beq_iff_eq] at ok
  ((first | refine x0_2 ok fun xE42 k4 => ?_ | obtain ⟨xE42, k4⟩ := ok); try clear ok; ((first | refine x0_2 xE42 fun k1 k2 => ?_ | obtain ⟨k1, k2⟩ := xE42); try clear xE42))
  refine kG ?_
  refine wpAny_Call_Name_kw (name_glob eo iv g hx ?_ hd)
  refine callWith_of (P := fun h => c.K.In h) rfl (keeps_K k4) (evalArgs_nil (spliced_nil ⟨iv.K, ?_⟩))
  show wpAny c.M A (call (.ref C) [] []) _ _ _
  refine wpAny_call ?_
  ((first | refine x0_2 (iv.push emptyDict rfl) fun i₂ y₂ => ?_ | obtain ⟨i₂, y₂⟩ := (iv.push emptyDict rfl)))
  ((first | refine x0_2 (i₂.push (instObj C s.heap.objs.size) rfl) fun i₃ y₃ => ?_ | obtain ⟨i₃, y₃⟩ := (i₂.push (instObj C s.heap.objs.size) rfl)))
  rw [Heap.size_push] at i₃ y₃
  ((obtain ⟨hh, gg, dd, tt, oo⟩ := s); try clear s)
  refine make_core (makes_of iv.K k1) (looks_findIn iv.K k2) (fun self => Looks.of_pure (oi_bind self)) (.inr ⟨rfl, rfl⟩) ?_
  have Y := makes_of (M := c.M) iv.K k1
  have kk : ∀ (b : Addr) (o : Obj), hh.get? b = some o → ((hh.push emptyDict).push (instObj C hh.objs.size)).get? b = some o := fun b o e => Heap.get?_push_of_some _ (Heap.get?_push_of_some _ e)
  have hx' : ((hh.push emptyDict).push (instObj C hh.objs.size)).get? (hh.objs.size + 1) = some (instObj C hh.objs.size) := i₃.froz _ _ (Wd.freeze_self _ _ _)
  have t2 : Looks c.M ((hh.push emptyDict).push (instObj C hh.objs.size)) (isInstance (.ref (hh.objs.size + 1)) (.type "object")) true := ((Looks.ld hx').andThen .now : Looks c.M _ (typeOf (.ref (hh.objs.size + 1))) (.ref C)).andThen (Y.top.keeps kk)
  refine codeAny_call_builtin oi_plain entry_oi (@check_slot c.M _ _ _ "object.__init__" "object" "__init__" (.ref (hh.objs.size + 1)) [] [] _ oi_kind oi_split t2 (oi_args (.ref (hh.objs.size + 1))) ?_)
  rw [oi_run]
  exact wpAny_pure (And.intro rfl ⟨_, i₃, y₂.trans y₃, ⟨rfl, rfl⟩, .obj hC (Wd.freeze_self _ _ _) (y₃.fz _ _ (Wd.freeze_self _ _ _)) .nil⟩)
/-! self.x = e -/
noncomputable def sSet (x : String) (o : Den V) (a : Den V) : SDen := fun ρ st => (a ρ st).bind fun p => (o ρ p.2).bind fun q => match q.1 with
  | .self _ i => match q.2[i]? with
    | some (.fields fs) => if (fs.lookup x).isNone ∧ fs.length < 500 then some (.next, ρ, q.2.set i (.fields (fs ++ [(x, p.1)]))) else none
    | _ => none
  | _ => none
theorem putL_len (x : Str) (hh : Int) (k v : Value) : ∀ es : List DictEntry, (putL x hh k v es).length ≤ es.length + 1
  | [] => by simp [putL]
  | e :: r => by
    unfold putL
    split
    · simp
    · have := putL_len x hh k v r
      simp only [List.length_cons]; lia
theorem storeField {A : Around} {s : Shared} {dx x' C : Addr} {es : List DictEntry} {n : Nat} {x : String} {v' : Value} {tk : Tok} {R : Result → Shared → Prop} (X : c.K.In s.heap) (I : InstAt s.heap x' (instObj C dx) C (some (dictOf es n))) (ok : storeOk1 c.K C x = true)
    (hes : es.any (·.refKey) = false) (hlen : es.length < 600)
    (h : R (.ok (.ret .none)) { s with heap := s.heap.update dx (Obj.putName (Str.ofString x) (PyData.keyHash c.w.params (Str.ofString x)) (.str (Str.ofString x) s.toks) v'), toks := s.toks + 1 }) :
    codeAny c.M A (.call (.builtin "object.__setattr__") ⟨[.ref x', .str (Str.ofString x) tk, v'], []⟩) R s := by
  unfold storeOk1 at ok
  simp only [Bool.and_eq_true, beq_iff_eq] at ok
  ((first | refine x0_2 ok fun xE43 k4 => ?_ | obtain ⟨xE43, k4⟩ := ok); try clear ok; ((first | refine x0_2 xE43 fun xE44 k3 => ?_ | obtain ⟨xE44, k3⟩ := xE43); try clear xE43; ((first | refine x0_2 xE44 fun k1 k2 => ?_ | obtain ⟨k1, k2⟩ := xE44); try clear xE44)))
  refine osa_open X I k2 k3 fun b => ?_
  ((first | refine x1_2 (any_some k4) fun cd hc hdict => ?_ | obtain ⟨cd, hc, hdict⟩ := (any_some k4)))
  have hx := I.at_
  have hdx : s.heap.get? dx = some (dictOf es n) := I.dict
  refine wpAny_bind (wpAny_pure (wpAny_bind (wpAny_bind (wpAny_loadPart hx (wpAny_bind ((looks_clsIn X hc).here ?_))))))
  rw [hdict]
  refine wpAny_pure (a := some dx) (wpAny_bind (wpAny_pure (wpAny_bind ?_)))
  unfold nsSet
  refine wpAny_bind (wpAny_bind (wpAny_askSetting (wpAny_pure (wpAny_bind (wpAny_mkText (wpAny_bind (wpAny_loadPart hdx ?_)))))))
  dsimp only
  rw [aRefKeyMayBeTheName_at]
  have e0 : (!(es.toArray.any fun e => e.key.isStr (Str.ofString x)) && es.toArray.any fun e => e.refKey) = false := by
    rw [show (es.toArray.any fun e => e.refKey) = false from by rw [List.any_toArray]; exact hes, Bool.and_false]
  rw [if_neg (by rw [e0]; exact Bool.false_ne_true)]
  refine wpAny_updatePart hdx ?_
  have hnew : (s.heap.update dx (Obj.putName (Str.ofString x) (PyData.keyHash c.w.params (Str.ofString x)) (.str (Str.ofString x) s.toks) v')).get? dx = some (dictOf (putL (Str.ofString x) (PyData.keyHash c.w.params (Str.ofString x)) (.str (Str.ofString x) s.toks) v' es) (putN (Str.ofString x) es n)) := by
    rw [← putName_dict]; exact Heap.get?_update_self _ hdx (by rw [putName_dict]; rfl)
  refine wpAny_bind (wpAny_lookBehind hnew (pastItsLine_dict ?_) ?_)
  · have : (putL (Str.ofString x) (PyData.keyHash c.w.params (Str.ofString x)) (.str (Str.ofString x) s.toks) v' es).length ≤ es.length + 1 := by
      exact putL_len _ _ _ _ es
    rw [List.size_toArray, sizeLine_eq]; lia
  · exact wpAny_pure h
theorem x_set {o val : Expr} {x : String} {pos' pos : Pos} {a b : Den V} (ha : ESound c lv sc val a) (hb : ESound c lv sc o b) (ok : ∀ C ∈ classList, storeOk1 c.K C x = true)
    (hs : ∀ env, swapsWith val (some (.Attribute o (Str.ofString x) pos')) pos.line env = pure false) : XSound c lv sc (.Assign [.Attribute o (Str.ofString x) pos'] val pos) (sSet x b a) := by
  intro A env e s W ρ ρ' st st' fl rm S iv t z q
  refine hide fun G kG => ?_
  refine bindP q fun v st₁ q₁ p₁ => ?_
  refine bindP p₁ fun u st₂ q₂ p₂ => ?_
  dsimp only at p₂
  split at p₂
  rotate_left
  · cases p₂
  rename_i _ D i
  split at p₂
  rotate_left
  · cases p₂
  rename_i fs hst
  split at p₂
  rotate_left
  · cases p₂
  rename_i hc
  cases p₂
  refine kG ?_
  refine plainObj_wpAny_Assign_Attribute ((ha A env s W ρ st st₁ v rm S.ok iv q₁).to fun W₁ a₁ s₁ i₁ y₁ z₁ r₁ => ?_) (hs env)
  refine (hb A env s₁ W₁ ρ st₁ st₂ _ rm (S.ok.step y₁) i₁ q₂).to fun W₂ a₂ s₂ i₂ y₂ z₂ r₂ => ?_
  ((obtain ⟨b', C, dx, es, n, eE45, hC, I, fr, _, h2⟩ := (inst_of i₂ r₂ fs (by simp only [vFields, hst]))); subst eE45)
  ((first | refine x0_2 (h2 _ _ rfl) fun eE46 hφ => ?_ | obtain ⟨eE46, hφ⟩ := (h2 _ _ rfl)); subst eE46)
  have k := ok D hC
  have k1 : findIn c.K (.ref D) "__setattr__" = some (some (.builtin "object.__setattr__")) := by
    unfold storeOk1 at k; simp only [Bool.and_eq_true, beq_iff_eq] at k; exact k.1.1.1
  have hdx : s₂.heap.get? dx = some (dictOf es n) := I.dict
  refine set_plain (ox := instObj D dx) i₂.K I k1 (storeField (s := { s₂ with toks := s₂.toks + 1 }) i₂.K I k (fs_find fr (x := x)).2 (by rw [← fr.length]; lia) ?_)
  show ∃ W', _
  have rv : VRel W₂ v a₁ := r₁.mono y₂.le
  have mr : MRel W₂ (.fields (fs ++ [(x, v)])) (Obj.putName (Str.ofString x) (PyData.keyHash c.w.params (Str.ofString x)) (.str (Str.ofString x) (s₂.toks + 1)) a₁ (dictOf es n)) := by
    rw [putName_dict]; exact .fields (putL_new fr (Option.isNone_iff_eq_none.mp hc.1) _ _ rv)
  ((first | refine x0_2 (i₂.setField hφ hst hdx (by rw [putName_dict]; rfl) mr (by intro z; cases z)) fun i₃ y₃ => ?_ | obtain ⟨i₃, y₃⟩ := (i₂.setField hφ hst hdx (by rw [putName_dict]; rfl) mr (by intro z; cases z))))
  exact ⟨W₂, i₃, ((t.trans y₁).trans y₂).trans y₃, ⟨z₂.gens.trans (z₁.gens.trans z.gens), z₂.os.trans (z₁.os.trans z.os)⟩, rfl, ((S.step y₁).step y₂).step y₃⟩
end
end Mine
namespace Mine
/-! iteration -/
noncomputable def rngL (x step : Int) : Nat → List V
  | 0 => []
  | n + 1 => .int x :: rngL (x + step) step n
noncomputable def vIter : V → Option (List V)
  | .lst vs => some vs
  | .tup vs => some vs
  | .rng a b c => if Builtin.Range.small a b c then some (rngL a c (Builtin.Range.rangeSize a b c).toNat) else none
  | _ => none
inductive IterAt (W : Wd) (h : Heap) (I : Addr) : List V → Prop
  | lst {l : Addr} {i : Nat} {o : Obj} {items : Array Value} {n : Nat} {vs : List V} : h.IsListIter I l i → W.fz l = some o → o.cls = .type "list" → o.data = .seq items n → VsRel W vs (items.toList.drop i) → IterAt W h I vs
  | tup {l : Addr} {i : Nat} {o : Obj} {items : Array Value} {n : Nat} {vs : List V} : h.IsTupleIter I l i → W.fz l = some o → o.cls = .type "tuple" → o.data = .seq items n → VsRel W vs (items.toList.drop i) → IterAt W h I vs
  | rng {x step : Int} {n : Nat} : IsRangeIter h I x n step → IterAt W h I (rngL x step n)
theorem IterAt.at {W W' : Wd} {h h' : Heap} {I : Addr} {vs : List V} (x : IterAt W h I vs) (l : W.Le W') (e : h'.get? I = h.get? I) : IterAt W' h' I vs := by
  cases x with
  | lst a b c d f => ((first | refine x1_2 a fun o q r => ?_ | obtain ⟨o, q, r⟩ := a); try clear a); exact .lst ⟨o, e.trans q, r⟩ (l.fz _ _ b) c d (f.mono l)
  | tup a b c d f => ((first | refine x1_2 a fun o q r => ?_ | obtain ⟨o, q, r⟩ := a); try clear a); exact .tup ⟨o, e.trans q, r⟩ (l.fz _ _ b) c d (f.mono l)
  | rng a => exact .rng (e.trans a)
theorem IterAt.some {W : Wd} {h : Heap} {I : Addr} {vs : List V} (x : IterAt W h I vs) : ∃ o, h.get? I = some o := by
  cases x with
  | lst a b c d f => ((first | refine x1_2 a fun o q r => ?_ | obtain ⟨o, q, r⟩ := a); try clear a); exact ⟨o, q⟩
  | tup a b c d f => ((first | refine x1_2 a fun o q r => ?_ | obtain ⟨o, q, r⟩ := a); try clear a); exact ⟨o, q⟩
  | rng a => exact ⟨_, a⟩
section
variable {c : Cx} {A : Around} {E : Value → Shared → Prop}
theorem iter_make {s : Shared} {W : Wd} {st : St} {v : V} {v' : Value} {l : List V} {Q : Value → Shared → Prop} (iv : Inv c.h₀ W st s.heap) (r : VRel W v v') (q : vIter v = some l)
    (h : ∀ o, o.isFreed = false → IterAt W (s.heap.push o) s.heap.objs.size l → Q (.ref s.heap.objs.size) { s with heap := s.heap.push o }) : wpAny c.M A (pyIter v') Q E s := by
  cases r <;> simp only [vIter] at q <;> try (cases q; done)
  case lst a o items n vs f cd rs =>
    cases q
    exact wpAny_pyIter_list ⟨o, iv.froz _ _ f, cd.cls, n, cd.data⟩ (h _ rfl (.lst ⟨_, Heap.get?_push_size _ rfl, rfl, rfl⟩ f cd.cls cd.data rs))
  case tup a o items n vs f cd rs =>
    cases q
    exact wpAny_pyIter_tuple ⟨o, iv.froz _ _ f, cd.cls, n, cd.data⟩ (h _ rfl (.tup ⟨_, Heap.get?_push_size _ rfl, rfl, rfl⟩ f cd.cls cd.data rs))
  case rng f =>
    split at q
    · rename_i hs
      cases q
      refine wpAny_pyIter_range (iv.froz _ _ f) hs (h _ rfl (.rng ?_))
      rw [← rangeSize_toNat]
      exact Heap.get?_push_size _ rfl
    · cases q
theorem drop_get {α : Type} {l : List α} {i : Nat} {a : α} {r : List α} (h : l.drop i = a :: r) : l[i]? = some a ∧ l.drop (i + 1) = r := by
  have h1 : (l.drop i)[0]? = some a := by rw [h]; rfl
  rw [List.getElem?_drop, Nat.add_zero] at h1
  refine ⟨h1, ?_⟩
  rw [← List.drop_drop, h]; rfl
theorem iter_next {s : Shared} {W : Wd} {st : St} {I : Addr} {v : V} {l : List V} {Q : Option Value → Shared → Prop} (iv : Inv c.h₀ W st s.heap) (it : IterAt W s.heap I (v :: l)) (hI : W.fz I = none)
    (h : ∀ v' h' tk, VRel W v v' → Heap.SameBut I s.heap h' → IterAt W h' I l → Q (some v') { s with heap := h', toks := tk }) : wpAny c.M A (pyNext (.ref I)) Q E s := by
  generalize hz : v :: l = z at it
  cases it with
  | lst a b c d f =>
    rename_i ll i o items n
    subst hz
    generalize hd : List.drop i items.toList = dl at f
    cases f with
    | cons rv rr =>
      rename_i v' vs'
      ((first | refine x0_2 (drop_get hd) fun g1 g2 => ?_ | obtain ⟨g1, g2⟩ := (drop_get hd)))
      refine wpAny_pyNext_list_item a ⟨o, iv.froz _ _ b, c, n, d⟩ (by simpa using g1) fun h' hi hs => ?_
      exact h v' h' s.toks rv hs (.lst hi b c d (g2 ▸ rr))
  | tup a b c d f =>
    rename_i ll i o items n
    subst hz
    generalize hd : List.drop i items.toList = dl at f
    cases f with
    | cons rv rr =>
      rename_i v' vs'
      ((first | refine x0_2 (drop_get hd) fun g1 g2 => ?_ | obtain ⟨g1, g2⟩ := (drop_get hd)))
      refine wpAny_pyNext_tuple_item a ⟨o, iv.froz _ _ b, c, n, d⟩ (by simpa using g1) fun h' hi hs => ?_
      exact h v' h' s.toks rv hs (.tup hi b c d (g2 ▸ rr))
  | rng a =>
    rename_i x step n
    cases n with
    | zero => cases hz
    | succ n =>
      cases hz
      refine wpAny_pyNext_range_item a (by lia) fun h' hi hs => h _ h' _ (.int x _) hs (.rng ?_)
      have e : ((n + 1 : Nat) : Int) - 1 = n := by lia
      rw [e] at hi; exact hi
theorem iter_end {s : Shared} {W : Wd} {st : St} {I : Addr} {Q : Option Value → Shared → Prop} (iv : Inv c.h₀ W st s.heap) (hh : A.handled = none) (it : IterAt W s.heap I [])
    (h : ∀ h', Heap.ExtBut I s.heap h' → Q none { s with heap := h' }) : wpAny c.M A (pyNext (.ref I)) Q E s := by
  generalize hz : ([] : List V) = z at it
  cases it with
  | lst a b c d f =>
    rename_i ll i o items n
    subst hz
    generalize hd : List.drop i items.toList = dl at f
    cases f
    refine wpAny_pyNext_list_end hh a ⟨o, iv.froz _ _ b, c, n, d⟩ ?_ h
    have := List.drop_eq_nil_iff.mp hd
    simpa using this
  | tup a b c d f =>
    rename_i ll i o items n
    subst hz
    generalize hd : List.drop i items.toList = dl at f
    cases f
    refine wpAny_pyNext_tuple_end hh a ⟨o, iv.froz _ _ b, c, n, d⟩ ?_ h
    have := List.drop_eq_nil_iff.mp hd
    simpa using this
  | rng a =>
    rename_i x step n
    cases n with
    | zero => exact wpAny_pyNext_range_end hh a (by lia) h
    | succ n => cases hz
end
/-- one address, no thing of ours, turned, and others came -/
theorem Inv.ext {h₀ : Heap} {W : Wd} {st : St} {h h' : Heap} {t : Addr} (i : Inv h₀ W st h) (b : Heap.ExtBut t h h') (f : W.fz t = none) (n : t ∉ W.φ) : Inv h₀ W st h' :=
  ⟨i.base, fun a o q => b a o (fun z => by rw [z, f] at q; cases q) (i.froz a o q), i.len, i.nodup, i.free, fun j a m q r =>
    let ⟨o, x, y⟩ := i.live j a m q r; ⟨o, b a o (fun z => n (z ▸ List.mem_of_getElem? q)) x, y⟩⟩
theorem StepG.ext {W₀ W : Wd} {g : Addr → Option Obj} {h h' : Heap} {t : Addr} (x : StepG W₀ g W h) (b : Heap.ExtBut t h h') (n : g t = none) : StepG W₀ g W h' := by
  have ne : ∀ (c : Addr) (o : Obj), g c = some o → c ≠ t := fun c o q z => by rw [z, n] at q; cases q
  exact ⟨fun c o q m => b c o (ne c o q) (x.keep c o q m), fun c o q => let ⟨o', z⟩ := x.alive c o q; ⟨o', b c o' (ne c o q) z⟩, x.fz, x.old, x.pre⟩
noncomputable def hyb (g : Addr → Option Obj) (I : Addr) (o : Obj) : Addr → Option Obj := fun b => if b = I then some o else g b
theorem hyb_self (g : Addr → Option Obj) (I : Addr) (o : Obj) : hyb g I o I = some o := if_pos rfl
theorem hyb_ne {g : Addr → Option Obj} {I b : Addr} {o : Obj} (h : b ≠ I) : hyb g I o b = g b := if_neg h
theorem StepG.hyb {W₀ W : Wd} {g : Addr → Option Obj} {h : Heap} {I : Addr} {o : Obj} (x : StepG W₀ g W h) (ho : h.get? I = some o) (f₀ : W₀.fz I = none) (f : W.fz I = none) (n : I ∉ W.φ) : StepG W₀ (hyb g I o) W h := by
  refine ⟨fun b p q m => ?_, fun b p q => ?_, x.fz, fun b p q m => ?_, ?_⟩
  · by_cases e : b = I
    · subst e; rw [hyb_self] at q; cases q; exact ho
    · rw [hyb_ne e] at q; exact x.keep b p q m
  · by_cases e : b = I
    · subst e; exact ⟨o, ho⟩
    · rw [hyb_ne e] at q; exact x.alive b p q
  · by_cases e : b = I
    · subst e; rw [f, f₀]
    · rw [hyb_ne e] at q; exact x.old b p q m
  · ((first | refine x1_2 x.pre fun r e hr => ?_ | obtain ⟨r, e, hr⟩ := x.pre))
    refine ⟨r, e, fun a ha => ?_⟩
    rw [hyb_ne fun z => n (by rw [← z, e]; exact List.mem_append_right _ ha)]; exact hr a ha
theorem StepG.unhyb {W₀ W : Wd} {g : Addr → Option Obj} {h : Heap} {I : Addr} {o : Obj} (x : StepG W₀ (Mine.hyb g I o) W h) (hg : g I = none) : StepG W₀ g W h := by
  have to : ∀ (b : Addr) (p : Obj), g b = some p → Mine.hyb g I o b = some p := fun b p q => (hyb_ne fun z => by rw [z, hg] at q; cases q).trans q
  refine ⟨fun b p q => x.keep b p (to b p q), fun b p q => x.alive b p (to b p q), x.fz, fun b p q => x.old b p (to b p q), ?_⟩
  ((first | refine x1_2 x.pre fun r e hr => ?_ | obtain ⟨r, e, hr⟩ := x.pre))
  refine ⟨r, e, fun a ha => ?_⟩
  have := hr a ha
  by_cases z : a = I
  · subst z; exact hg
  · rw [hyb_ne z] at this; exact this
theorem StepG.start {W₀ W : Wd} {g : Addr → Option Obj} {h : Heap} (x : StepG W₀ g W h) : StepG W g W h :=
  ⟨fun b o q m => x.keep b o q fun z => m (by ((first | refine x1_2 x.pre fun r e _ => ?_ | obtain ⟨r, e, _⟩ := x.pre)); rw [e]; exact List.mem_append_left _ z), x.alive, fun _ _ q => q, fun _ _ _ _ => rfl, [], by simp, by simp⟩
theorem StepG.join {W₀ W W' : Wd} {g : Addr → Option Obj} {h h' : Heap} {I : Addr} {o : Obj} (x : StepG W₀ g W h) (y : StepG W (Mine.hyb g I o) W' h') (hg : g I = none) : StepG W₀ g W' h' := by
  have y := y.unhyb hg
  ((first | refine x1_2 x.pre fun r e hr => ?_ | obtain ⟨r, e, hr⟩ := x.pre))
  ((first | refine x1_2 y.pre fun r' e' hr' => ?_ | obtain ⟨r', e', hr'⟩ := y.pre))
  exact ⟨fun b p q m => y.keep b p q (x.notin q m), fun b p q => y.alive b p q, fun b p q => y.fz b p (x.fz b p q), fun b p q m => (y.old b p q (x.notin q m)).trans (x.old b p q m), r ++ r', by rw [e', e, List.append_assoc], fun a ha => (List.mem_append.mp ha).elim (hr a) (hr' a)⟩
theorem EnvS.reg {sc : Scope} {env : Env} {e : Snap1} {W : Wd} {ρ : Rho} {h : Heap} (S : EnvS sc env e W ρ h) (W' : Wd) (g : Addr → Option Obj) (k : ∀ a o, h.get? a = some o → e.g a = none → g a = none) : EnvS sc env ⟨W', e.s, g⟩ W ρ h := by
  ((first | refine x1_2 S.own fun ow o1 o2 => ?_ | obtain ⟨ow, o1, o2⟩ := S.own))
  refine ⟨S.ok, ?_, S.lfz, S.ns, S.loc, fun x hx => ?_, S.apart, S.lcell, ow, fun x vs hx => ?_, o2⟩
  · ((first | refine x1_1 S.ok.locals.2 fun o q => ?_ | obtain ⟨o, q⟩ := S.ok.locals.2)); exact k _ o q S.lnew
  · ((obtain ⟨kd, cc, o, v, a, b, d, f, g⟩ := (S.cel x hx))); exact ⟨kd, cc, o, v, a, b, d, f, k _ o b g⟩
  · ((first | refine x0_6 (o1 x vs hx) fun a xE47 b d f r => ?_ | obtain ⟨a, xE47, b, d, f, r⟩ := (o1 x vs hx)); ((first | refine x3_2 xE47 fun o items n q1 q2 => ?_ | obtain ⟨o, items, n, q1, q2⟩ := xE47); try clear xE47)); exact ⟨a, ⟨o, items, n, q1, q2⟩, b, d, k _ o q1 f, r⟩
theorem VarAt.ext {env : Env} {h h' : Heap} {x : Str} {v : Value} {I : Addr} (y : VarAt env h x v) (b : Heap.ExtBut I h h') (hl : env.locals ≠ I) (hc : ∀ x c, env.cells.lookup x = some c → c ≠ I) : VarAt env h' x v := by
  rcases y with ⟨k, m, ⟨o, es, ep, e, r⟩, q⟩ | ⟨k, c, e, o, r, d⟩
  · exact .inl ⟨k, m, ⟨o, es, ep, b _ o hl e, r⟩, q⟩
  · exact .inr ⟨k, c, e, o, b _ o (hc x c e) r, d⟩
theorem EnvS.ext {sc : Scope} {env : Env} {e : Snap1} {W : Wd} {ρ : Rho} {h h' : Heap} {I : Addr} (S : EnvS sc env e W ρ h) (b : Heap.ExtBut I h h') (hI : e.g I ≠ none) (hc : ∀ x c, env.cells.lookup x = some c → c ≠ I) : EnvS sc env e W ρ h' := by
  have hl : env.locals ≠ I := fun z => hI (z ▸ S.lnew)
  ((first | refine x1_2 S.own fun ow o1 o2 => ?_ | obtain ⟨ow, o1, o2⟩ := S.own))
  refine ⟨⟨S.ok.kind, S.ok.globals, S.ok.builtins, S.ok.glob, S.ok.fr, ⟨S.ok.locals.1, ?_⟩, fun x c q => ⟨(S.ok.cells x c q).1, ?_⟩, fun x v q n => ?_⟩, S.lnew, S.lfz, ?_, S.loc, fun x hx => ?_, S.apart, S.lcell, ow, fun x vs hx => ?_, o2⟩
  · ((first | refine x1_1 S.ok.locals.2 fun o q => ?_ | obtain ⟨o, q⟩ := S.ok.locals.2)); exact ⟨o, b _ o hl q⟩
  · ((first | refine x1_1 ((S.ok.cells x c q).2) fun o z => ?_ | obtain ⟨o, z⟩ := ((S.ok.cells x c q).2))); exact ⟨o, b _ o (hc x c q) z⟩
  · ((first | refine x1_2 (S.ok.vars x v q n) fun v' a r => ?_ | obtain ⟨v', a, r⟩ := (S.ok.vars x v q n))); exact ⟨v', a.ext b hl hc, r⟩
  · ((first | refine x0_6 S.ns fun m o es ep q r => ?_ | refine x4_2 S.ns fun m o es ep q r => ?_ | obtain ⟨m, o, es, ep, q, r⟩ := S.ns)); exact ⟨m, o, es, ep, b _ o hl q, r⟩
  · ((obtain ⟨kd, cc, o, v, a, b', d, f, g⟩ := (S.cel x hx))); exact ⟨kd, cc, o, v, a, b _ o (hc _ _ a) b', d, f, g⟩
  · ((first | refine x0_6 (o1 x vs hx) fun a xE48 b' d f r => ?_ | refine x4_2 (o1 x vs hx) fun a xE48 b' d f r => ?_ | obtain ⟨a, xE48, b', d, f, r⟩ := (o1 x vs hx)); ((first | refine x3_2 xE48 fun o items n q1 q2 => ?_ | obtain ⟨o, items, n, q1, q2⟩ := xE48); try clear xE48))
    exact ⟨a.ext b hl hc, ⟨o, items, n, b _ o (fun z => hI (z ▸ f)) q1, q2⟩, b', d, f, r⟩
noncomputable def sLoop (x : String) (b : SDen) : List V → SDen
  | [] => fun ρ st => some (.next, ρ, st)
  | v :: r => fun ρ st => (b (ρ.set x v) st).bind fun p => match p.1 with
    | .next => sLoop x b r p.2.1 p.2.2
    | .ret u => some (.ret u, p.2.1, p.2.2)
noncomputable def sFor (x : String) (a : Den V) (b : SDen) : SDen := fun ρ st => (a ρ st).bind fun p => (vIter p.1).bind fun l => sLoop x b l ρ p.2
section
variable {c : Cx} {lv : Nat} {sc : Scope}
inductive ForInv (c : Cx) (sc : Scope) (env : Env) (e : Snap1) (x : String) (b : SDen) (I : Addr) (fl : Fl) (ρ' : Rho) (st' : St) (n : Nat) (s' : Shared) : Prop
  | mk (W : Wd) (ρ₀ : Rho) (st₀ : St) (oI : Obj) (r : List V) (num : n = r.length) (it : IterAt W s'.heap I r) (iv : Inv c.h₀ W st₀ s'.heap) (t : StepG e.W e.g W s'.heap) (fI : W.fz I = none) (nI : I ∉ W.φ) (Z : Same e.s s') (S : EnvS sc env ⟨e.W, e.s, hyb e.g I oI⟩ W ρ₀ s'.heap) (q : sLoop x b r ρ₀ st₀ = some (fl, ρ', st'))
theorem x_for {x : String} {pos' pos : Pos} {iter : Expr} {body : List Stmt} {a : Den V} {b : SDen} (ha : ESound c lv sc iter a) (hb : SSound c lv sc body b) (hx : sc.names.lookup (Str.ofString x) = some .local ∨ sc.names.lookup (Str.ofString x) = some .cell)
    (hs : ∀ env v, foldedSetIterable iter env v = pure v) : XSound c lv sc (.For (.Name (Str.ofString x) pos') iter body [] pos) (sFor x a b) := by
  intro A env e s W ρ ρ' st st' fl rm S iv t z q
  refine bindP q fun u st₁ q₁ q => ?_
  refine bindO q fun l q₂ q => ?_
  refine wpAny_For ((ha A env s W ρ st st₁ u rm S.ok iv q₁).to fun W₁ u' s₁ i₁ y₁ z₁ r₁ => ?_) (hs env)
  refine iter_make i₁ r₁ q₂ fun o nf it => ?_
  have S₁ := S.step y₁
  have t₁ := t.trans y₁
  have Z₁ := z.trans z₁
  generalize hI : s₁.heap.objs.size = I at it ⊢
  have fresh : ∀ (a : Addr) (p : Obj), s₁.heap.get? a = some p → a ≠ I := fun a p q w => by have := Heap.lt_size q; rw [w, ← hI] at this; exact Nat.lt_irrefl _ this
  have hI0 : s₁.heap.get? I = none := by rw [← hI]; exact heap_out _
  have fzI : W₁.fz I = none := by
    cases w : W₁.fz I with
    | none => rfl
    | some p => exact absurd rfl (fresh _ _ (i₁.froz _ _ w))
  have φI : I ∉ W₁.φ := fun m => by have := i₁.lt m; rw [hI] at this; exact Nat.lt_irrefl _ this
  have gI : e.g I = none := by
    cases w : e.g I with
    | none => rfl
    | some p => obtain ⟨p', w'⟩ := t₁.alive _ _ w; exact absurd rfl (fresh _ _ w')
  have e0 : e.W.fz I = none := by
    cases w : e.W.fz I with
    | none => rfl
    | some p => have := t₁.fz _ _ w; rw [fzI] at this; cases this
  have eφ : I ∉ e.W.φ := fun m => by obtain ⟨r, w, _⟩ := t₁.pre; exact φI (by rw [w]; exact List.mem_append_left _ m)
  have hc : ∀ y cc, env.cells.lookup y = some cc → cc ≠ I := fun y cc q => by obtain ⟨_, p, w⟩ := S₁.ok.cells y cc q; exact fresh _ _ w
  have kpush : ∀ (b : Addr) (p : Obj), s₁.heap.get? b = some p → (s₁.heap.push o).get? b = some p := fun b p q => Heap.get?_push_of_some _ q
  have S₂ : EnvS sc env ⟨e.W, e.s, hyb e.g I o⟩ W₁ ρ (s₁.heap.push o) := ((S₁.reg e.W (hyb e.g I o) fun a p q w => (hyb_ne (fresh a p q)).trans w).step (Step.grow kpush))
  have i₂ : Inv c.h₀ W₁ st₁ (s₁.heap.push o) := i₁.grow kpush
  have t₂ : StepG e.W e.g W₁ (s₁.heap.push o) := t₁.trans (Step.grow kpush)
  have some_ne : ∀ oI : Obj, hyb e.g I oI I ≠ none := fun oI => by rw [hyb_self]; exact Option.some_ne_none _
  refine codeAny_forLoop (I := ForInv c sc env e x b I fl ρ' st') (fun n s' hinv => ?_) l.length ⟨W₁, ρ, st₁, o, l, rfl, it, i₂, t₂, fzI, φI, ⟨Z₁.gens, Z₁.os⟩, S₂, q⟩
  obtain ⟨W, ρ₀, st₀, oI, r, rfl, it, iv, t, fI, nI, Z, S, q⟩ := hinv
  cases r with
  | nil =>
    cases q
    refine iter_end iv rm.handled it fun h' hx => ?_
    refine wpAny_execs_nil ?_
    exact ⟨W, iv.ext hx fI nI, t.ext hx gI, ⟨Z.gens, Z.os⟩, rfl, (S.ext hx (some_ne oI) hc).reg e.W e.g fun a p q w => by
      by_cases za : a = I
      · subst za; exact gI
      · exact (hyb_ne za).symm.trans w⟩
  | cons v r =>
    refine iter_next iv it fI fun v' h' tk rv hs' it' => ?_
    obtain ⟨o', ho'⟩ := it'.some
    have S₃ : EnvS sc env ⟨W, e.s, hyb e.g I o'⟩ W ρ₀ h' := (S.ext hs'.extBut (some_ne oI) hc).reg W (hyb e.g I o') fun a p q w => by
      have za : a ≠ I := fun za => some_ne oI (za ▸ w)
      exact (hyb_ne za).trans ((hyb_ne za).symm.trans w)
    have t₃ : StepG W (hyb e.g I o') W h' := ((t.turn hs' gI).hyb ho' e0 fI nI).start
    have i₃ : Inv c.h₀ W st₀ h' := iv.turn hs' fI nI
    refine wpAny_assign_Name (store_raw S₃ hx fun h'' tk' tt T f n g => ?_)
    have S₄ := S₃.stored T rv
    have ne : I ≠ tt := fun w => some_ne o' (w ▸ g)
    have ho'' : h''.get? I = some o' := (T.but.2 I ne).trans ho'
    have it'' : IterAt W h'' I r := it'.at (Wd.Le.refl _) (T.but.2 I ne)
    refine bindT q fun f₁ ρ₁ st₂ q₃ q => ?_
    refine wpAny_mono (hb A env ⟨W, e.s, hyb e.g I o'⟩ _ W _ ρ₁ st₀ st₂ f₁ rm S₄ (i₃.turn T.but f n) (t₃.turn T.but g) ⟨Z.gens, Z.os⟩ q₃) (fun flow s₃ hpost => ?_) fun _ _ x => x.elim
    obtain ⟨W₄, i₄, t₄, Z₄, r₄⟩ := hpost
    cases f₁ with
    | next =>
      obtain ⟨rfl, S₅⟩ := r₄
      refine ⟨r.length, by simp, W₄, ρ₁, st₂, o', r, rfl, it''.at t₄.le ((t₄.keep I o' (hyb_self _ _ _) nI).trans ho''.symm), i₄, t.join t₄ gI, (t₄.old I o' (hyb_self _ _ _) nI).trans fI, t₄.notin (hyb_self _ _ _) nI, Z₄, S₅.reg e.W _ fun a p q w => w, q⟩
    | ret u =>
      cases q
      obtain ⟨v'', rfl, rr⟩ := r₄
      exact ⟨W₄, i₄, t.join t₄ gI, Z₄, v'', rfl, rr⟩
end
end Mine
namespace Mine
/-! comprehensions -/
theorem iter_self {c : Cx} {A : Around} {E : Value → Shared → Prop} {s : Shared} {W : Wd} {I : Addr} {l : List V} {Q : Value → Shared → Prop} (it : IterAt W s.heap I l) (h : Q (.ref I) s) : wpAny c.M A (pyIter (.ref I)) Q E s := by
  cases it with
  | lst a b c d f => exact wpAny_pyIter_listiter a h
  | tup a b c d f => exact wpAny_pyIter_tupleiter a h
  | rng a => exact wpAny_pyIter_rangeiter a h
noncomputable def clOf (env : Env) : List (Str × NameKind) → List (Str × Addr) → List (Str × Addr)
  | [], acc => acc
  | (n, k) :: r, acc => if k == .free then clOf env r ((n, (env.cells.lookup n).getD 0) :: acc) else clOf env r acc
theorem clOf_mem {env : Env} : ∀ {ns : List (Str × NameKind)} {acc : List (Str × Addr)} {y : Str} {a : Addr}, (y, a) ∈ clOf env ns acc → (y, a) ∈ acc ∨ ((y, .free) ∈ ns ∧ a = (env.cells.lookup y).getD 0)
  | [], acc, y, a, h => .inl h
  | (n, k) :: r, acc, y, a, h => by
    unfold clOf at h
    split at h
    · rename_i hk
      rcases clOf_mem h with q | ⟨q, e⟩
      · rcases List.mem_cons.mp q with q | q
        · cases q; exact .inr ⟨by rw [eq_of_beq hk]; exact List.mem_cons_self, rfl⟩
        · exact .inl q
      · exact .inr ⟨List.mem_cons_of_mem _ q, e⟩
    · rcases clOf_mem h with q | ⟨q, e⟩
      · exact .inl q
      · exact .inr ⟨List.mem_cons_of_mem _ q, e⟩
theorem clOf_keys {env : Env} : ∀ {ns : List (Str × NameKind)} {acc : List (Str × Addr)} {y : Str}, ((y, .free) ∈ ns ∨ ∃ a, (y, a) ∈ acc) → ∃ a, (y, a) ∈ clOf env ns acc
  | [], acc, y, h => by
    rcases h with h | h
    · cases h
    · exact h
  | (n, k) :: r, acc, y, h => by
    unfold clOf
    split
    · rename_i hk
      refine clOf_keys ?_
      rcases h with h | ⟨a, h⟩
      · rcases List.mem_cons.mp h with q | q
        · cases q; exact .inr ⟨_, List.mem_cons_self⟩
        · exact .inl q
      · exact .inr ⟨a, List.mem_cons_of_mem _ h⟩
    · rename_i hk
      refine clOf_keys ?_
      rcases h with h | ⟨a, h⟩
      · rcases List.mem_cons.mp h with q | q
        · cases q; exact absurd rfl hk
        · exact .inl q
      · exact .inr ⟨a, h⟩
theorem lookup_of_mem {α β : Type} [BEq α] [LawfulBEq α] : ∀ {l : List (α × β)} {y : α} {a : β}, (y, a) ∈ l → ∃ b, l.lookup y = some b
  | (n, k) :: r, y, a, h => by
    rw [List.lookup_cons]
    by_cases e : y = n
    · subst e; simp
    · rw [beq_eq_false_iff_ne.mpr e]
      rcases List.mem_cons.mp h with q | q
      · cases q; exact absurd rfl e
      · exact lookup_of_mem q
theorem closureFor_eq {scope : Scope} {env : Env} (h : ∀ y, (y, NameKind.free) ∈ scope.names → ∃ c, env.cells.lookup y = some c ∧ cellOf env y = pure c) : closureFor scope env = pure (clOf env scope.names []) := by
  unfold closureFor
  have key : ∀ (ns : List (Str × NameKind)) (acc : List (Str × Addr)), (∀ y, (y, NameKind.free) ∈ ns → ∃ c, env.cells.lookup y = some c ∧ cellOf env y = pure c) →
      (forIn ns acc fun (x : Str × NameKind) (r : List (Str × Addr)) => (do
        let cs := r
        if (x.2 == NameKind.free) = true then do
          let __do_lift ← cellOf env x.1
          let cs := (x.1, __do_lift) :: cs
          pure PUnit.unit
          pure (ForInStep.yield cs)
        else do
          pure PUnit.unit
          pure (ForInStep.yield cs) : Sem (ForInStep (List (Str × Addr))))) = pure (clOf env ns acc) := by
    intro ns
    induction ns with
    | nil => intro acc _; rfl
    | cons p r ih =>
      intro acc hh
      ((obtain ⟨n, k⟩ := p); try clear p)
      rw [List.forIn_cons]
      unfold clOf
      by_cases hk : (k == NameKind.free) = true
      · have hk' : k = .free := eq_of_beq hk
        subst hk'
        ((first | refine x1_2 (hh n List.mem_cons_self) fun c h1 h2 => ?_ | obtain ⟨c, h1, h2⟩ := (hh n List.mem_cons_self)))
        simp only [beq_self_eq_true, if_true, h2, h1, Option.getD_some]
        exact ih _ fun y hy => hh y (List.mem_cons_of_mem _ hy)
      · simp only [hk, if_false, Bool.false_eq_true]
        exact ih _ fun y hy => hh y (List.mem_cons_of_mem _ hy)
  have := key scope.names [] h
  simp only [bind_pure]
  exact this
noncomputable def restrict (free : List String) (ρ : Rho) : Rho := fun y => if y ∈ free then ρ y else none
noncomputable def cLoop (x : String) (d : Den V) : List V → Rho → St → Option (List V × St)
  | [], _, st => some ([], st)
  | v :: r, ρ, st => (d (ρ.set x v) st).bind fun p => (cLoop x d r ρ p.2).map fun q => (p.1 :: q.1, q.2)
noncomputable def dComp (free : List String) (x : String) (a d : Den V) : Den V := fun ρ st => (a ρ st).bind fun p => (vIter p.1).bind fun l => if l.length ≤ 1000000 then (cLoop x d l (restrict free ρ) p.2).map fun q => (.lst q.1, q.2) else none
noncomputable def compOk (sc scope : Scope) (free : List String) : Bool :=
  scope.names.all (fun n => n.2 != .cell && (n.2 != .free || sc.names.lookup n.1 == some .cell || sc.names.lookup n.1 == some .free) && (n.2 != .local || scope.names.lookup n.1 == some .local)) && free.all fun y => scope.names.lookup (Str.ofString y) == some .free
theorem EnvOk.ext {sc : Scope} {env : Env} {W : Wd} {ρ : Rho} {h h' : Heap} {I : Addr} (S : EnvOk sc env W ρ h) (b : Heap.ExtBut I h h') (hl : env.locals ≠ I) (hc : ∀ x c, env.cells.lookup x = some c → c ≠ I) : EnvOk sc env W ρ h' :=
  ⟨S.kind, S.globals, S.builtins, S.glob, S.fr, ⟨S.locals.1, let ⟨o, q⟩ := S.locals.2; ⟨o, b _ o hl q⟩⟩, fun x c q => ⟨(S.cells x c q).1, let ⟨o, z⟩ := (S.cells x c q).2; ⟨o, b _ o (hc x c q) z⟩⟩,
    fun x v q n => let ⟨v', a, r⟩ := S.vars x v q n; ⟨v', a.ext b hl hc, r⟩⟩
theorem mem_of_lookup' {α β : Type} [BEq α] [LawfulBEq α] : ∀ {l : List (α × β)} {y : α} {a : β}, l.lookup y = some a → (y, a) ∈ l
  | (n, k) :: r, y, a, h => by
    rw [List.lookup_cons] at h
    split at h
    · rename_i e; rw [eq_of_beq e]; cases h; exact List.mem_cons_self
    · exact List.mem_cons_of_mem _ (mem_of_lookup' h)
theorem relabel_glob {env : Env} : ∀ {names : List (Str × NameKind)} {x : Str}, names.lookup x = some .globalImplicit →
    (names.map fun (n, k) => if (k == NameKind.free && env.scope.kind == .function && env.kindOf n == some .cell) then (n, NameKind.cell) else (n, k)).lookup x = some .globalImplicit
  | [], _, h => by simp at h
  | (n, k) :: r, x, h => by
    have ih := @relabel_glob env r x
    show List.lookup x ((if (k == NameKind.free && env.scope.kind == .function && env.kindOf n == some .cell) = true then (n, NameKind.cell) else (n, k)) :: _) = _
    cases hx : x == n with
    | true =>
      simp only [List.lookup_cons, hx] at h
      cases h
      simp [List.lookup_cons, hx]
    | false =>
      simp only [List.lookup_cons, hx] at h
      by_cases hc : (k == NameKind.free && env.scope.kind == .function && env.kindOf n == some .cell) = true
      · rw [if_pos hc]; simp only [List.lookup_cons, hx]; exact ih h
      · rw [if_neg hc]; simp only [List.lookup_cons, hx]; exact ih h
theorem relabel_free {env : Env} : ∀ {names : List (Str × NameKind)} {x : Str}, names.lookup x = some .free →
    (names.map fun (n, k) => if (k == NameKind.free && env.scope.kind == .function && env.kindOf n == some .cell) then (n, NameKind.cell) else (n, k)).lookup x = some .cell ∨
    (names.map fun (n, k) => if (k == NameKind.free && env.scope.kind == .function && env.kindOf n == some .cell) then (n, NameKind.cell) else (n, k)).lookup x = some .free
  | [], _, h => by simp at h
  | (n, k) :: r, x, h => by
    have ih := @relabel_free env r x
    show List.lookup x ((if (k == NameKind.free && env.scope.kind == .function && env.kindOf n == some .cell) = true then (n, NameKind.cell) else (n, k)) :: _) = _ ∨ List.lookup x ((if (k == NameKind.free && env.scope.kind == .function && env.kindOf n == some .cell) = true then (n, NameKind.cell) else (n, k)) :: _) = _
    cases hx : x == n with
    | true =>
      simp only [List.lookup_cons, hx] at h
      cases h
      by_cases hc : (NameKind.free == NameKind.free && env.scope.kind == .function && env.kindOf n == some .cell) = true
      · rw [if_pos hc]; simp only [List.lookup_cons, hx]; exact .inl trivial
      · rw [if_neg hc]; simp only [List.lookup_cons, hx]; exact .inr trivial
    | false =>
      simp only [List.lookup_cons, hx] at h
      by_cases hc : (k == NameKind.free && env.scope.kind == .function && env.kindOf n == some .cell) = true
      · rw [if_pos hc]; simp only [List.lookup_cons, hx]; exact ih h
      · rw [if_neg hc]; simp only [List.lookup_cons, hx]; exact ih h
section
variable {c : Cx} {lv : Nat} {sc scope : Scope}
structure CompOk (sc scope : Scope) (free : List String) : Prop where
  nocell : ∀ y ∈ scope.names, y.2 ≠ .cell
  free_ : ∀ y, (y, NameKind.free) ∈ scope.names → sc.names.lookup y = some .cell ∨ sc.names.lookup y = some .free
  names : ∀ y ∈ scope.names, y.2 = .local → scope.names.lookup y.1 = some .local
  used : ∀ y ∈ free, scope.names.lookup (Str.ofString y) = some .free
theorem CompOk.of {free : List String} (h : compOk sc scope free = true) : CompOk sc scope free := by
  unfold compOk at h
  rw [Bool.and_eq_true, List.all_eq_true, List.all_eq_true] at h
  ((first | refine x0_2 h fun h1 h2 => ?_ | obtain ⟨h1, h2⟩ := h); try clear h)
  refine ⟨fun y hy q => ?_, fun y hy => ?_, fun y hy q => ?_, fun y hy => eq_of_beq (h2 y hy)⟩
  · have := h1 y hy; rw [q] at this; simp at this
  · have := h1 _ hy; simp at this; exact this
  · have := h1 y hy; rw [q] at this; simp at this; exact this
theorem comp_env {env : Env} {W : Wd} {ρ : Rho} {h : Heap} {C : Addr} {m : Str → Option Value} {x : String} {v : V} {v' : Value} {free : List String} (eo : EnvOk sc env W ρ h) (ok : CompOk sc scope free) (hkind : scope.kind = .function) (hx : scope.names.lookup (Str.ofString x) = some .local)
    (hC : C ∉ W.φ) (hn : h.Ns C m) (hm : m (Str.ofString x) = some v') (rv : VRel W v v') : EnvOk scope (compEnvC scope (clOf env scope.names []) C env) W ((restrict free ρ).set x v) h := by
  have at_ : ∀ y c, (clOf env scope.names []).lookup y = some c → (y, NameKind.free) ∈ scope.names ∧ env.cells.lookup y = some c := fun y c q => by
    rcases clOf_mem (mem_of_lookup' q) with z | ⟨z, e⟩
    · cases z
    · ((first | refine x1_2 (eo.fr y (ok.free_ y z)) fun _ c' hc' => ?_ | obtain ⟨_, c', hc'⟩ := (eo.fr y (ok.free_ y z))))
      rw [hc', Option.getD_some] at e
      exact ⟨z, e ▸ hc'⟩
  have has : ∀ y, (y, NameKind.free) ∈ scope.names → ∃ c, (clOf env scope.names []).lookup y = some c ∧ env.cells.lookup y = some c := fun y hy => by
    ((first | refine x1_1 (clOf_keys (env := env) (acc := []) (.inl hy)) fun a ha => ?_ | obtain ⟨a, ha⟩ := (clOf_keys (env := env) (acc := []) (.inl hy))))
    ((first | refine x1_1 (lookup_of_mem ha) fun b hb => ?_ | obtain ⟨b, hb⟩ := (lookup_of_mem ha)))
    exact ⟨b, hb, (at_ y b hb).2⟩
  refine ⟨hkind, eo.globals, eo.builtins, fun y hy => relabel_glob hy, fun y hy => ?_, ⟨hC, ?_⟩, fun y c q => eo.cells y c (at_ y c q).2, fun y u q n => ?_⟩
  · have hy : scope.names.lookup y = some .free := by
      rcases hy with hy | hy
      · exact absurd rfl (ok.nocell _ (mem_of_lookup' hy))
      · exact hy
    ((first | refine x1_2 (has y (mem_of_lookup' hy)) fun c h1 _ => ?_ | obtain ⟨c, h1, _⟩ := (has y (mem_of_lookup' hy))))
    exact ⟨relabel_free hy, c, h1⟩
  · ((first | refine x3_2 hn fun o es ep q _ => ?_ | obtain ⟨o, es, ep, q, _⟩ := hn); try clear hn); exact ⟨o, q⟩
  · unfold Rho.set restrict at q
    split at q
    · rename_i e; subst e; cases q
      exact ⟨v', .inl ⟨lookup_relabel_local hx, m, hn, hm⟩, rv⟩
    · split at q
      · rename_i e hf
        have hy := ok.used y hf
        ((first | refine x1_2 (eo.vars y u q n) fun u' a r => ?_ | obtain ⟨u', a, r⟩ := (eo.vars y u q n)))
        ((first | refine x1_2 (has _ (mem_of_lookup' hy)) fun c h1 h2 => ?_ | obtain ⟨c, h1, h2⟩ := (has _ (mem_of_lookup' hy))))
        refine ⟨u', .inr ⟨relabel_free hy, c, h1, ?_⟩, r⟩
        rcases a with ⟨k, _⟩ | ⟨k, c', e', o⟩
        · rcases (eo.fr _ (ok.free_ _ (mem_of_lookup' hy))).1 with k' | k' <;> (rw [k] at k'; cases k')
        · rw [h2] at e'; cases e'; exact o
      · cases q
noncomputable def Out (W : Wd) (a : Addr) : Prop := W.fz a = none ∧ a ∉ W.φ
theorem Out.step {W W' : Wd} {h h' : Heap} {a : Addr} {o : Obj} (x : Out W a) (t : Step W h W' h') (q : h.get? a = some o) : Out W' a := ⟨(t.old a o q x.2).trans x.1, t.notin q x.2⟩
theorem Inv.out {h₀ : Heap} {W : Wd} {st : St} {h : Heap} (i : Inv h₀ W st h) {a : Addr} (n : h.get? a = none) : Out W a := by
  refine ⟨?_, fun m => ?_⟩
  · cases z : W.fz a with
    | none => rfl
    | some p => have := i.froz _ _ z; rw [n] at this; cases this
  · ((first | refine x1_2 (List.mem_iff_getElem.mp m) fun j hj e => ?_ | obtain ⟨j, hj, e⟩ := (List.mem_iff_getElem.mp m)))
    have hs : j < st.length := i.len ▸ hj
    ((first | refine x1_2 (i.live j W.φ[j] st[j] (List.getElem?_eq_getElem hj) (List.getElem?_eq_getElem hs)) fun o q _ => ?_ | obtain ⟨o, q, _⟩ := (i.live j W.φ[j] st[j] (List.getElem?_eq_getElem hj) (List.getElem?_eq_getElem hs))))
    rw [e, n] at q; cases q
theorem Inv.freezeNew {h₀ : Heap} {W : Wd} {st : St} {h : Heap} (i : Inv h₀ W st h) {D : Addr} {o : Obj} (ho : h.get? D = some o) (out : Out W D) : Inv h₀ (W.freeze D o) st h ∧ W.Le (W.freeze D o) := by
  have ne : ∀ (a : Addr) (p : Obj), W.fz a = some p → a ≠ D := fun a p q z => by rw [z, out.1] at q; cases q
  have le : ∀ (a : Addr) (p : Obj), W.fz a = some p → (W.freeze D o).fz a = some p := fun a p q => by
    show (if a = D then some o else W.fz a) = some p
    rw [if_neg (ne a p q)]; exact q
  have L : W.Le (W.freeze D o) := ⟨le, fun _ _ q => q⟩
  refine ⟨⟨fun a p q => le a p (i.base a p q), fun a p q => ?_, i.len, i.nodup, fun j a m q r nd => ?_, fun j a m q r => let ⟨p, x, y⟩ := i.live j a m q r; ⟨p, x, y.mono L⟩⟩, L⟩
  · change (if a = D then some o else W.fz a) = some p at q
    split at q
    · rename_i z; subst z; cases q; exact ho
    · exact i.froz a p q
  · show (if a = D then some o else W.fz a) = none
    rw [if_neg fun (z : a = D) => out.2 (z ▸ List.mem_of_getElem? q)]; exact i.free j a m q r nd
theorem StepG.freezeNew {W₀ W : Wd} {g : Addr → Option Obj} {h : Heap} {D : Addr} {o : Obj} (x : StepG W₀ g W h) (n : g D = none) (out : Out W D) : StepG W₀ g (W.freeze D o) h :=
  ⟨x.keep, x.alive, fun a p q => by
    show (if a = D then some o else W.fz a) = some p
    rw [if_neg fun z => by have := x.fz a p q; rw [z, out.1] at this; cases this]; exact x.fz a p q, fun a p q m => by
    show (if a = D then some o else W.fz a) = _
    rw [if_neg fun z => by rw [z, n] at q; cases q]; exact x.old a p q m, x.pre⟩
theorem VsRel.snoc {W : Wd} {a : List V} {a' : List Value} {v : V} {v' : Value} (x : VsRel W a a') (y : VRel W v v') : VsRel W (a ++ [v]) (a' ++ [v']) := x.app (.cons y .nil)
inductive CompInv (c : Cx) (vs : List V) (I D C : Addr) (W₁ : Wd) (s₀ : Shared) (x : String) (d : Den V) (free : List String) (ρ : Rho) (st₂ : St) (n : Nat) (s' : Shared) : Prop
  | mk (W₂ : Wd) (st₀ : St) (r ys rest : List V) (m : Str → Option Value) (items : Array Value) (num : n = r.length) (it : IterAt W₂ s'.heap I r) (inv : Inv c.h₀ W₂ st₀ s'.heap) (step : Step W₁ s₀.heap W₂ s'.heap) (same : Same s₀ s') (oI : Out W₂ I) (oD : Out W₂ D) (oC : Out W₂ C) (acc : s'.heap.PlainList D items)
    (rel : VsRel W₂ ys items.toList) (ns : s'.heap.Ns C m) (run : cLoop x d r (restrict free ρ) st₀ = some (rest, st₂)) (out : vs = ys ++ rest) (len : ys.length + r.length ≤ 1000000)
noncomputable def CompEnd (c : Cx) (W₁ : Wd) (s₁ : Shared) (st₂ : St) (vs : List V) (RR : Value → Addr → Result → Shared → Prop) : Prop :=
  ∀ D C W' s' m items nn, Inv c.h₀ W' st₂ s'.heap → Step W₁ s₁.heap W' s'.heap → Same s₁ s' → s'.heap.Ns C m → s'.heap.get? D = some { cls := .type "list", data := .seq items nn } → VsRel W' vs items.toList → Out W' D → Out W' C → s₁.heap.get? D = none → s₁.heap.get? C = none → D ≠ C → RR (.ref D) C (.ok .next) s'
theorem comp_fin {A : Around} {s s₁ : Shared} {W W₁ : Wd} {st₂ : St} {vs : List V} (y₁ : Step W s.heap W₁ s₁.heap) (z₁ : Same s s₁) :
    CompEnd c W₁ s₁ st₂ vs (compPost c.M A (fun _ _ => False) none (fun a s' => ∃ W', End1 c.h₀ W s st₂ (VRel W' (.lst vs) a) s' W')) := fun D C W' s' m items nn iv t Z ns hob rs oD oC hD0 hC0 nCD => by
  refine ⟨m, ns, fun h'' hsb' => ?_⟩
  have g1 := hsb'.extBut _ _ nCD hob
  have j1 := iv.turn hsb' oC.1 oC.2
  have j4 := j1.freezeNew g1 oD
  have j3 := (t.turn hsb' hC0).freezeNew (D := D) (o := { cls := .type "list", data := .seq items nn }) hD0 oD
  exact ⟨_, j4.1, y₁.trans j3, ⟨Z.gens.trans z₁.gens, Z.os.trans z₁.os⟩, .lst (Wd.freeze_self _ _ _) rfl (rs.mono j4.2)⟩
theorem comp_core {elt iter : Expr} {x : String} {px pos : Pos} {free : List String} {d : Den V} {A : Around} {env : Env} {s₁ : Shared} {W₁ : Wd} {ρ : Rho} {st₁ st₂ : St} {u' : Value} {u : V} {l vs : List V} {E : Value → Shared → Prop} {RR : Value → Addr → Result → Shared → Prop} (hd : ESound c lv scope elt d) (ok : CompOk sc scope free) (hkind : scope.kind = .function) (hx : scope.names.lookup (Str.ofString x) = some .local)
    (rm : Room A lv) (eo₁ : EnvOk sc env W₁ ρ s₁.heap) (i₁ : Inv c.h₀ W₁ st₁ s₁.heap) (r₁ : VRel W₁ u u') (q₂ : vIter u = some l) (hlen : l.length ≤ 1000000) (q₃ : cLoop x d l (restrict free ρ) st₁ = some (vs, st₂))
    (hR : CompEnd c W₁ s₁ st₂ vs RR) :
    wpAny c.M A (pyIter u') (fun it s₂ => wpAny c.M A (newList []) (fun acc s₃ => wpAny c.M A (newFunctionEnv scope env.globals (clOf env scope.names []) [] env.qual none .none (some env)) (fun cenv s₄ =>
      codeAny c.M A (.compStart (.ListComp elt [⟨.Name (Str.ofString x) px, iter, [], 0⟩] scope pos) 0 it acc { cenv with scope := relabel scope env }) (RR acc cenv.locals) s₄) E s₃) E s₂) E s₁ := by
  refine iter_make i₁ r₁ q₂ fun oI nf it => ?_
  refine wpAny_newObj_type (wpAny_newFunctionEnv ok.nocell (by intro y hy; simp at hy) (fun h₁ hns hsb => ?_) hkind)
  dsimp only at hns hsb ⊢
  generalize hI : s₁.heap.objs.size = I at it ⊢
  generalize hD : (s₁.heap.push oI).objs.size = D
  generalize hC : ((s₁.heap.push oI).push { cls := .type "list", dict := none, data := .seq ([] : List Value).toArray }).objs.size = C at hns hsb ⊢
  have eD : D = I + 1 := by rw [← hD, Heap.size_push, hI]
  have eC : C = I + 2 := by rw [← hC, Heap.size_push, Heap.size_push, hI]
  have fresh : ∀ (a : Addr) (p : Obj), s₁.heap.get? a = some p → a < I := fun a p w => by rw [← hI]; exact Heap.lt_size w
  have hI0 : s₁.heap.get? I = none := by rw [← hI]; exact heap_out _
  have hD0 : s₁.heap.get? D = none := get_beyond (by rw [eD, hI]; exact Nat.le_succ _)
  have hC0 : s₁.heap.get? C = none := get_beyond (by rw [eC, hI]; exact Nat.le_add_right _ _)
  have nCI : I ≠ C := by rw [eC]; exact Nat.ne_of_lt (Nat.lt_add_of_pos_right (by decide))
  have nCD : D ≠ C := by rw [eC, eD]; exact Nat.ne_of_lt (Nat.lt_succ_self _)
  have nDI : I ≠ D := by rw [eD]; exact Nat.ne_of_lt (Nat.lt_succ_self _)
  have up : ∀ (b : Addr) (p : Obj), (s₁.heap.push oI).get? b = some p → h₁.get? b = some p := fun b p w => by
    refine hsb.extBut b p ?_ (Heap.get?_push_of_some _ (Heap.get?_push_of_some _ w))
    have := Heap.lt_size w
    rw [hD] at this
    rw [eC]; rw [eD] at this; exact Nat.ne_of_lt (Nat.lt_succ_of_lt this)
  have kp : ∀ (b : Addr) (p : Obj), s₁.heap.get? b = some p → h₁.get? b = some p := fun b p w => up b p (Heap.get?_push_of_some _ w)
  have gI : h₁.get? I = some oI := up _ _ (by rw [← hI]; exact Heap.get?_push_size _ nf)
  have gD : h₁.PlainList D #[] := ⟨_, hsb.extBut D _ nCD (Heap.get?_push_of_some _ (by rw [← hD]; exact Heap.get?_push_size _ rfl))⟩
  have t₁ : Step W₁ s₁.heap W₁ h₁ := Step.grow kp
  have i₂ : Inv c.h₀ W₁ st₁ h₁ := i₁.grow kp
  have it₁ : IterAt W₁ h₁ I l := it.at (Wd.Le.refl _) (gI.trans (by rw [← hI]; exact (Heap.get?_push_size _ nf).symm))
  have loop : codeAny c.M A (.compLoop (.ListComp elt [⟨.Name (Str.ofString x) px, iter, [], 0⟩] scope pos) 0 (.ref I) (.ref D) (compEnvC scope (clOf env scope.names []) C env)) (RR (.ref D) C) ⟨h₁, s₁.gens, s₁.drawn, s₁.toks + ([] : List (Str × Value)).length, s₁.os⟩ := by
    refine codeAny_compLoop_tests (CompInv c vs I D C W₁ s₁ x d free ρ st₂) (fun n s' hinv => ?_) l.length
      ⟨W₁, st₁, l, [], vs, _, #[], rfl, it₁, i₂, t₁, ⟨rfl, rfl⟩, i₁.out hI0, i₁.out hD0, i₁.out hC0, gD, .nil, hns, q₃, rfl, by simpa using hlen⟩
    obtain ⟨W₂, st₀, r, ys, rest, m, items, num, it, iv, t, Z, oI', oD, oC, lD, rs, ns, q, hout, hle⟩ := hinv
    cases r with
    | nil =>
      have e1 : [] = rest := congrArg Prod.fst (Option.some.inj q)
      have e2 : st₀ = st₂ := congrArg Prod.snd (Option.some.inj q)
      refine iter_end iv rm.handled it fun h' hx => ?_
      refine lD.elim fun nn hob => ?_
      exact hR D C W₂ _ m items nn ((e2 ▸ iv).ext hx oI'.1 oI'.2) (t.ext hx hI0) ⟨Z.gens, Z.os⟩ (ns.at' fun o e => hx _ o nCI.symm e) (hx _ _ nDI.symm hob) (by rw [hout, ← e1, List.append_nil]; exact rs) oD oC hD0 hC0 nCD
    | cons v r =>
      refine bindP q fun w st₃ q₄ q => ?_
      refine mapP q fun rest' st₄ q₅ q => ?_
      have e1 : w :: rest' = rest := congrArg Prod.fst q
      have e2 : st₄ = st₂ := congrArg Prod.snd q
      refine iter_next iv it oI'.1 fun v' h' tk rv hs' it' => ?_
      refine wpAny_assign_Name (wpAny_storeName_local (lookup_relabel_local hx) (ns.sameBut hs' nCI.symm) (fun h₂ hn₂ hs₂ => ?_) (by simp [compEnvC, relabel, hkind]))
      refine wpAny_tests_nil ?_
      rw [if_pos rfl]
      have t₂ : Step W₁ s₁.heap W₂ h₂ := (t.turn hs' hI0).turn hs₂ hC0
      have i₂ : Inv c.h₀ W₂ st₀ h₂ := (iv.turn hs' oI'.1 oI'.2).turn hs₂ oC.1 oC.2
      have it₂ : IterAt W₂ h₂ I r := it'.at (Wd.Le.refl _) (hs₂.2 _ nCI)
      refine it₂.some.elim fun oi hoi => ?_
      have lD₂ := (lD.extBut hs'.extBut nDI.symm).extBut hs₂.extBut nCD
      refine wpAny_mono (hd A _ ⟨h₂, _, _, _, _⟩ W₂ _ st₀ st₃ w rm (comp_env (eo₁.step t₂) ok hkind hx oC.2 hn₂ (by simp) rv) i₂ q₄) (fun w' s₄ ⟨W₃, i₃, y₃, z₃, r₃⟩ => ?_) fun _ _ f => f.elim
      refine lD₂.elim fun nn hob => ?_
      refine x3_2 hn₂ fun oc es ep hoc hrest => ?_
      have lD₃ : s₄.heap.PlainList D items := ⟨nn, y₃.keep D _ hob oD.2⟩
      have hlenI : ys.length = items.size := by simpa using rs.length
      refine wpAny_list_append_plain (hsz := by rw [← hlenI]; exact lineOf (by simp at hle; lia)) lD₃ fun h₄ hl₄ hs₄ => ?_
      have oD₃ := oD.step y₃ hob
      have oI₃ := oI'.step y₃ hoi
      have oC₃ := oC.step y₃ hoc
      exact ⟨r.length, by rw [num]; exact Nat.lt_succ_self _, W₃, st₃, r, ys ++ [w], rest', _, _, rfl, it₂.at y₃.le ((hs₄.2 _ nDI).trans ((y₃.keep _ _ hoi oI'.2).trans hoi.symm)), i₃.turn hs₄ oD₃.1 oD₃.2, (t₂.trans y₃).turn hs₄ hD0, ⟨z₃.gens.trans Z.gens, z₃.os.trans Z.os⟩, oI₃, oD₃, oC₃, hl₄,
        by rw [Array.toList_push]; exact (rs.mono y₃.le).snoc r₃, ⟨oc, es, ep, hs₄.extBut _ _ nCD.symm (y₃.keep _ _ hoc oC.2), hrest⟩, e2 ▸ q₅, by rw [hout, ← e1]; simp, by simp at hle ⊢; lia⟩
  exact codeAny_compStart_list loop (iter_self (c := c) (s := ⟨h₁, s₁.gens, s₁.drawn, s₁.toks + ([] : List (Str × Value)).length, s₁.os⟩) it₁ loop)
theorem comp_clos {env : Env} {W : Wd} {ρ : Rho} {h : Heap} {free : List String} (eo : EnvOk sc env W ρ h) (ok : CompOk sc scope free) : closureFor scope env = pure (clOf env scope.names []) :=
  closureFor_eq fun y hy => by
    ((obtain ⟨_, cc, hc⟩ := (eo.fr y (ok.free_ y hy))))
    exact ⟨cc, hc, by unfold cellOf; rw [hc]⟩
theorem e_comp {elt iter : Expr} {x : String} {px pos : Pos} {free : List String} {a d : Den V} (ha : ESound c lv sc iter a) (hd : ESound c lv scope elt d) (ok : compOk sc scope free = true) (hkind : scope.kind = .function) (hx : scope.names.lookup (Str.ofString x) = some .local)
    (hs : ∀ env v, foldedSetIterable iter env v = pure v) : ESound c lv sc (.ListComp elt [⟨.Name (Str.ofString x) px, iter, [], 0⟩] scope pos) (dComp free x a d) := by
  intro A env s W ρ st st' v rm eo iv q
  refine hide fun G kG => ?_
  have ok := CompOk.of ok
  refine bindP q fun u st₁ q₁ q => ?_
  refine bindO q fun l q₂ q => ?_
  split at q
  rotate_left
  · cases q
  rename_i hlen
  refine mapP q fun vs st₂ q₃ q => ?_
  cases q
  refine kG ?_
  rw [eval_ListComp]
  refine wpAny_comprehension_free (use := none) rfl (hs env) (comp_clos eo ok) hkind ok.names ((ha A env s W ρ st st₁ u rm eo iv q₁).to fun W₁ u' s₁ i₁ y₁ z₁ r₁ => ?_)
  exact comp_core hd ok hkind hx rm (eo.step y₁) i₁ r₁ q₂ hlen q₃ (comp_fin y₁ z₁)
/-- x = [..for..], where the model stores x before the block's own names go -/
theorem x_asgComp {elt iter : Expr} {x y : String} {px py pos spos : Pos} {free : List String} {a d : Den V} (ha : ESound c lv sc iter a) (hd : ESound c lv scope elt d) (ok : compOk sc scope free = true) (hkind : scope.kind = .function) (hx : scope.names.lookup (Str.ofString x) = some .local) (hy : sc.names.lookup (Str.ofString y) = some .local)
    (hsw : ∀ env : Env, env.kindOf (Str.ofString y) = some .local → env.blockKind = .function → swapsWith (.ListComp elt [⟨.Name (Str.ofString x) px, iter, [], 0⟩] scope pos) (some (.Name (Str.ofString y) py)) spos.line env = pure true)
    (hs : ∀ env v, foldedSetIterable iter env v = pure v) : XSound c lv sc (.Assign [.Name (Str.ofString y) py] (.ListComp elt [⟨.Name (Str.ofString x) px, iter, [], 0⟩] scope pos) spos) (sAsg y (dComp free x a d)) := by
  intro A env e s W ρ ρ' st st' fl rm S iv t z q
  refine hide fun G kG => ?_
  have ok := CompOk.of ok
  refine mapP q fun v st₅ q' q₀ => ?_
  cases q₀
  refine bindP q' fun u st₁ q₁ q => ?_
  refine bindO q fun l q₂ q => ?_
  split at q
  rotate_left
  · cases q
  rename_i hlen
  refine mapP q fun vs st₂ q₃ q => ?_
  cases q
  have hb : env.blockKind = .function := by unfold Env.blockKind; rw [S.ok.kind]; rfl
  refine kG ?_
  rw [exec_Assign_Name_used _ _ _ _ (hsw env (S.loc _ hy) hb)]
  refine wpAny_bind (wpAny_standAt (wpAny_bind ?_))
  show wpAny _ A (do let _ ← comprehension (.ListComp elt [⟨.Name (Str.ofString x) px, iter, [], 0⟩] scope pos) scope env _ (newList []) false (eval iter env) (some (assign (.Name (Str.ofString y) py) env))) _ _ s
  refine wpAny_bind (wpAny_mono (wpAny_comprehension_free (use := some (assign (.Name (Str.ofString y) py) env)) (Q := fun _ s' => ∃ W', End2 c.h₀ e st₂ (FlRel sc env e W' s'.heap (ρ.set y (.lst vs)) .next .next) s' W') (E := fun _ _ => False) rfl (hs env) (comp_clos S.ok ok) hkind ok.names
    ((ha A env s W ρ st st₁ u rm S.ok iv q₁).to fun W₁ u' s₁ i₁ y₁ z₁ r₁ => ?_)) (fun _ s' hq => wpAny_pure (wpAny_pure hq)) fun _ _ e => e)
  have S₁ := S.step y₁
  refine comp_core hd ok hkind hx rm S₁.ok i₁ r₁ q₂ hlen q₃ fun D C W' s' m items nn iv t' Z ns hob rs oD oC hD0 hC0 nCD => ?_
  ((first | refine x0_2 (iv.freezeNew hob oD) fun j2 L => ?_ | refine x1_1 (iv.freezeNew hob oD) fun j2 L => ?_ | obtain ⟨j2, L⟩ := (iv.freezeNew hob oD)))
  have j3 := t'.freezeNew (D := D) (o := { cls := .type "list", data := .seq items nn }) hD0 oD
  have oC' : Out (W'.freeze D { cls := .type "list", data := .seq items nn }) C := ⟨by show (if C = D then _ else _) = _; rw [if_neg nCD.symm]; exact oC.1, oC.2⟩
  have gC : e.g C = none := by
    cases w : e.g C with
    | none => rfl
    | some p => ((first | refine x0_2 ((t.trans y₁).alive _ _ w) fun p' w' => ?_ | refine x1_1 ((t.trans y₁).alive _ _ w) fun p' w' => ?_ | obtain ⟨p', w'⟩ := ((t.trans y₁).alive _ _ w))); rw [hC0] at w'; cases w'
  have hcells : ∀ x c, env.cells.lookup x = some c → c ≠ C := fun x c q w => by
    ((obtain ⟨_, p, w'⟩ := (S₁.ok.cells x c q))); rw [w, hC0] at w'; cases w'
  have S₂ : EnvS sc env ⟨e.W, e.s, hyb e.g C default⟩ _ ρ s'.heap := (S₁.reg e.W (hyb e.g C default) fun a p q w => (hyb_ne (fun za => by rw [za, hC0] at q; cases q)).trans w).step j3
  show wpAny _ A (assign (.Name (Str.ofString y) py) env (.ref D)) _ _ _
  refine wpAny_assign_Name (store_raw S₂ (.inl hy) fun h'' tk' tt T f n g => ?_)
  have S₃ := S₂.stored T (.lst (vs := vs) (Wd.freeze_self _ _ _) rfl (rs.mono L))
  have neC : C ≠ tt := fun w => by rw [← w] at g; have : hyb e.g C default C = none := g; rw [hyb_self] at this; cases this
  have gt : e.g tt = none := by have : hyb e.g C default tt = none := g; rw [hyb_ne neC.symm] at this; exact this
  refine ⟨m, ns.at' fun o q => T.but.extBut C o neC q, fun h₃ hs₃ => ?_⟩
  refine ⟨_, (j2.turn T.but f n).turn hs₃ oC'.1 oC'.2, (((t.trans y₁).trans j3).turn T.but gt).turn hs₃ gC, ⟨Z.gens.trans (z₁.gens.trans z.gens), Z.os.trans (z₁.os.trans z.os)⟩, rfl, (S₃.ext hs₃.extBut (by show hyb e.g C default C ≠ none; rw [hyb_self]; exact Option.some_ne_none _) hcells).reg e.W e.g fun a p q w => ?_⟩
  by_cases za : a = C
  · subst za; exact gC
  · exact (hyb_ne za).symm.trans w
end
end Mine
namespace Mine
/-! builtin functions and types by name -/
noncomputable def GlobBlt (c : Cx) (x : Str) (v : Value) : Prop := ∃ mg mb, c.h₀.Ns mainGlobals mg ∧ mg x = none ∧ c.h₀.Ns builtinsNs mb ∧ mb x = some v
noncomputable def BltOk (c : Cx) (f : Value) (b : List V → Option V) : Prop :=
  ∀ (A : Around) (s : Shared) (W : Wd) (st : St) (vs : List V) (vs' : List Value) (r : V), Room A 0 → Inv c.h₀ W st s.heap → VsRel W vs vs' → b vs = some r → Does c.M c.h₀ A (call f vs' []) W s st (fun W' r' => VRel W' r r')
noncomputable def dBlt (b : List V → Option V) (r : Den (List V)) : Den V := fun ρ st => (r ρ st).bind fun q => (b q.1).map fun v => (v, q.2)
section
variable {c : Cx} {lv : Nat} {sc : Scope}
theorem name_blt {A : Around} {env : Env} {s : Shared} {W : Wd} {ρ : Rho} {st : St} {x : Str} {p : Pos} {v : Value} {Q : Value → Shared → Prop} {E : Value → Shared → Prop} (eo : EnvOk sc env W ρ s.heap) (iv : Inv c.h₀ W st s.heap)
    (g : GlobBlt c x v) (hx : sc.names.lookup x = some .globalImplicit) (h : Q v s) (hd : (x == ("__debug__" : Str)) = false) : wpAny c.M A (eval (.Name x p) env) Q E s := by
  ((first | refine x2_4 g fun mg mb n q n' q' => ?_ | obtain ⟨mg, mb, n, q, n', q'⟩ := g); try clear g)
  have k : ∀ (b : Addr) (o : Obj), c.h₀.get? b = some o → s.heap.get? b = some o := fun b o e => iv.froz b o (iv.base b o e)
  exact Name_function_global eo.kind (eo.glob x hx) (loadGlobal_builtin (by rw [eo.globals]; exact n.keeps k) q (by rw [eo.builtins]; exact n'.keeps k) q' h) hd
theorem e_callB {x : Str} {p pos : Pos} {args : List Expr} {f : Value} {b : List V → Option V} {r : Den (List V)} (g : GlobBlt c x f) (hf : (∃ id, f = .builtin id) ∨ ∃ T, f = .type T) (fs : BltOk c f b) (hr : EsSound c lv sc args r)
    (hx : sc.names.lookup x = some .globalImplicit) (hns : NoStar args) (hp : ∀ env, (backTo pos (starEach args env)).any (·.1) = false) (hd : (x == ("__debug__" : Str)) = false) : ESound c lv sc (.Call (.Name x p) args [] pos) (dBlt b r) := by
  intro A env s W ρ st st' v rm eo iv q
  refine bindP q fun vs st₁ q₁ q => ?_
  refine mapO q fun u q₂ q => ?_
  cases q
  refine wpAny_Call_Name_kw (name_blt eo iv g hx ?_ hd)
  have K : wpAny c.M A (evalArgs f true (backTo pos (starEach args env)) []) (fun a s₁ => wpAny c.M A (call f ([] ++ a.pos) a.kw) (fun a s' => ∃ W', End1 c.h₀ W s st₁ (VRel W' v a) s' W') (fun _ _ => False) s₁) (fun _ _ => False) s :=
    args_then rm eo iv hr q₁ (hns env pos) fun W₁ vs' s₁ i₁ y₁ z₁ r₁ => (fs A s₁ W₁ st₁ vs vs' v (rm.less (Nat.zero_le _)) i₁ r₁ q₂).to fun W₂ v' s₂ i₂ y₂ z₂ r₂ => ⟨W₂, i₂, y₁.trans y₂, z₁.trans z₂, r₂⟩
  rcases hf with ⟨id, rfl⟩ | ⟨T, rfl⟩
  · exact Calls.callWith_builtin (hp env) K
  · exact PySem.callWith_type (hp env) K
end
section
variable {c : Cx}
noncomputable def vInts : List V → Option (List Int)
  | [] => some []
  | .int i :: r => (vInts r).map (i :: ·)
  | _ :: _ => none
theorem ints_of {W : Wd} : ∀ {vs : List V} {vs' : List Value} {ns : List Int}, VsRel W vs vs' → vInts vs = some ns → IntsAre vs' ns
  | [], _, ns, .nil, h => by cases h; exact .nil
  | v :: vs, _, ns, .cons a b, h => by
    cases v <;> simp only [vInts] at h <;> try (cases h; done)
    refine mapO h fun ms h1 eR => ?_; subst eR
    cases a
    exact .cons _ _ (ints_of b h1)
theorem vInts_map (ns : List Int) : vInts (ns.map V.int) = some ns := by
  induction ns with
  | nil => rfl
  | cons n r ih => simp [vInts, ih]
theorem doesHere {A : Around} {t : Sem Value} {s : Shared} {W : Wd} {st : St} {r : V} (x : ∀ Q : Value → Shared → Prop, (∀ h' tk a, (∀ b o, s.heap.get? b = some o → h'.get? b = some o) → VRel W r a → Q a { s with heap := h', toks := tk }) → wpAny c.M A t Q (fun _ _ => False) s) (i : Inv c.h₀ W st s.heap) :
    Does c.M c.h₀ A t W s st (fun W' v' => VRel W' r v') := x _ fun h' tk a k ra => ⟨W, i.grow k, Step.grow k, ⟨rfl, rfl⟩, ra⟩
noncomputable def bMax2 : List V → Option V | [.int a, .int b] => some (.int (max a b)) | _ => none
noncomputable def bMin2 : List V → Option V | [.int a, .int b] => some (.int (min a b)) | _ => none
theorem ok_max2 : BltOk c (.builtin "max") bMax2 := by
  intro A s W st vs vs' r rm iv rv q
  unfold bMax2 at q
  split at q
  · cases q
    ((first | refine x2_3 (vs_two rv) fun _ _ eE53 ra rb => ?_ | obtain ⟨_, _, eE53, ra, rb⟩ := (vs_two rv)); subst eE53)
    ((first | refine x1_1 (int_rel ra) fun _ eE54 => ?_ | obtain ⟨_, eE54⟩ := (int_rel ra)); subst eE54)
    ((first | refine x1_1 (int_rel rb) fun _ eE55 => ?_ | obtain ⟨_, eE55⟩ := (int_rel rb)); subst eE55)
    ·
        refine doesHere (fun Q h => max_two_ints rm.handled fun h' tk hk => h _ _ _ hk ?_) iv
        split
        · rename_i hh; rw [Int.max_eq_right (by lia)]; exact .int _ _
        · rename_i hh; rw [Int.max_eq_left (by lia)]; exact .int _ _
  · cases q
theorem ok_min2 : BltOk c (.builtin "min") bMin2 := by
  intro A s W st vs vs' r rm iv rv q
  unfold bMin2 at q
  split at q
  · cases q
    ((first | refine x2_3 (vs_two rv) fun _ _ eE56 ra rb => ?_ | obtain ⟨_, _, eE56, ra, rb⟩ := (vs_two rv)); subst eE56)
    ((first | refine x1_1 (int_rel ra) fun _ eE57 => ?_ | obtain ⟨_, eE57⟩ := (int_rel ra)); subst eE57)
    ((first | refine x1_1 (int_rel rb) fun _ eE58 => ?_ | obtain ⟨_, eE58⟩ := (int_rel rb)); subst eE58)
    ·
        refine doesHere (fun Q h => min_two_ints rm.handled fun h' tk hk => h _ _ _ hk ?_) iv
        split
        · rename_i hh; rw [Int.min_eq_right (by lia)]; exact .int _ _
        · rename_i hh; rw [Int.min_eq_left (by lia)]; exact .int _ _
  · cases q
noncomputable def maxL : List Int → Int | [] => 0 | a :: r => r.foldl max a
noncomputable def minL : List Int → Int | [] => 0 | a :: r => r.foldl min a
theorem maxF (r : List Int) : ∀ a : Int, (r.foldl max a = a ∨ r.foldl max a ∈ r) ∧ a ≤ r.foldl max a ∧ ∀ x ∈ r, x ≤ r.foldl max a := by
  induction r with
  | nil => intro a; exact ⟨.inl rfl, Int.le_refl _, fun x hx => by cases hx⟩
  | cons b r ih =>
    intro a
    ((first | refine x0_3 (ih (max a b)) fun h1 h2 h3 => ?_ | obtain ⟨h1, h2, h3⟩ := (ih (max a b))))
    rw [List.foldl_cons]
    refine ⟨?_, by have := Int.le_max_left a b; lia, fun x hx => ?_⟩
    · rcases h1 with h | h
      · rw [h]
        rcases Int.le_total a b with g | g
        · rw [Int.max_eq_right g]; exact .inr List.mem_cons_self
        · rw [Int.max_eq_left g]; exact .inl rfl
      · exact .inr (List.mem_cons_of_mem _ h)
    · rcases List.mem_cons.mp hx with rfl | hx
      · have := Int.le_max_right a x; lia
      · exact h3 x hx
theorem minF (r : List Int) : ∀ a : Int, (r.foldl min a = a ∨ r.foldl min a ∈ r) ∧ r.foldl min a ≤ a ∧ ∀ x ∈ r, r.foldl min a ≤ x := by
  induction r with
  | nil => intro a; exact ⟨.inl rfl, Int.le_refl _, fun x hx => by cases hx⟩
  | cons b r ih =>
    intro a
    ((first | refine x0_3 (ih (min a b)) fun h1 h2 h3 => ?_ | obtain ⟨h1, h2, h3⟩ := (ih (min a b))))
    rw [List.foldl_cons]
    refine ⟨?_, by have := Int.min_le_left a b; lia, fun x hx => ?_⟩
    · rcases h1 with h | h
      · rw [h]
        rcases Int.le_total a b with g | g
        · rw [Int.min_eq_left g]; exact .inl rfl
        · rw [Int.min_eq_right g]; exact .inr List.mem_cons_self
      · exact .inr (List.mem_cons_of_mem _ h)
    · rcases List.mem_cons.mp hx with rfl | hx
      · have := Int.min_le_right a x; lia
      · exact h3 x hx
theorem maxL_is {l : List Int} (h : l ≠ []) : maxL l ∈ l ∧ ∀ x ∈ l, x ≤ maxL l := by
  cases l with
  | nil => exact absurd rfl h
  | cons a r =>
    ((first | refine x0_3 (maxF r a) fun h1 h2 h3 => ?_ | obtain ⟨h1, h2, h3⟩ := (maxF r a)))
    refine ⟨?_, fun x hx => ?_⟩
    · rcases h1 with h | h
      · show r.foldl max a ∈ _; rw [h]; exact List.mem_cons_self
      · exact List.mem_cons_of_mem _ h
    · rcases List.mem_cons.mp hx with rfl | hx
      · exact h2
      · exact h3 x hx
theorem minL_is {l : List Int} (h : l ≠ []) : minL l ∈ l ∧ ∀ x ∈ l, minL l ≤ x := by
  cases l with
  | nil => exact absurd rfl h
  | cons a r =>
    ((first | refine x0_3 (minF r a) fun h1 h2 h3 => ?_ | obtain ⟨h1, h2, h3⟩ := (minF r a)))
    refine ⟨?_, fun x hx => ?_⟩
    · rcases h1 with h | h
      · show r.foldl min a ∈ _; rw [h]; exact List.mem_cons_self
      · exact List.mem_cons_of_mem _ h
    · rcases List.mem_cons.mp hx with rfl | hx
      · exact h2
      · exact h3 x hx
noncomputable def bMaxL : List V → Option V | [.lst vs] => (vInts vs).bind fun ns => if ns = [] then none else some (.int (maxL ns)) | _ => none
noncomputable def bMinL : List V → Option V | [.lst vs] => (vInts vs).bind fun ns => if ns = [] then none else some (.int (minL ns)) | _ => none
theorem ints_items {W : Wd} {items : Array Value} {ns : List Int} (hi : IntsAre items.toList ns) : ∃ xs : Array (Int × Tok), items = intItems xs ∧ ns = xs.toList.map (·.1) := by
  ((first | refine x1_1 hi.allInts.items fun xs e => ?_ | obtain ⟨xs, e⟩ := hi.allInts.items))
  refine ⟨xs, by simpa using e, ?_⟩
  have e' : items = intItems xs := by simpa using e
  rw [← hi.numsOf, ← nums_intItems, ← e']
theorem ok_maxL : BltOk c (.builtin "max") bMaxL := by
  intro A s W st vs vs' r rm iv rv q
  unfold bMaxL at q
  split at q
  · refine bindO q fun ns q₁ q => ?_
    split at q
    · cases q
    · rename_i hne
      cases q
      ((first | refine x1_2 (vs_one rv) fun _ eE59 ra => ?_ | obtain ⟨_, eE59, ra⟩ := (vs_one rv)); subst eE59)
      ((first | refine x4_4 (lst_rel ra) fun _ _ _ _ eE60 f cd rs => ?_ | obtain ⟨_, _, _, _, eE60, f, cd, rs⟩ := (lst_rel ra)); subst eE60)
      ·
          have cl := cd.cls
          have d := cd.data
          ((first | refine x1_2 (ints_items (W := W) (ints_of rs q₁)) fun xs e hns => ?_ | obtain ⟨xs, e, hns⟩ := (ints_items (W := W) (ints_of rs q₁))))
          have hsz : 0 < xs.size := by
            rcases Nat.eq_zero_or_pos xs.size with z | z
            · exact absurd (by rw [hns, Array.eq_empty_of_size_eq_zero z]; rfl) hne
            · exact z
          refine doesHere (fun Q h => max_intList rm.handled ⟨_, iv.froz _ _ f, cl, _, e ▸ d⟩ hsz fun v h' tk hv hk => h _ _ _ hk ?_) iv
          ((first | refine x0_2 (intItems_at hv) fun t eE61 => ?_ | refine x1_1 (intItems_at hv) fun t eE61 => ?_ | obtain ⟨t, eE61⟩ := (intItems_at hv)); subst eE61)
          ((first | refine x0_2 (argBest_gt (numAt xs) (xs.size - 1)) fun h1 h2 => ?_ | refine x1_1 (argBest_gt (numAt xs) (xs.size - 1)) fun h1 h2 => ?_ | obtain ⟨h1, h2⟩ := (argBest_gt (numAt xs) (xs.size - 1))))
          ((first | refine x0_2 (maxL_is hne) fun g1 g2 => ?_ | refine x1_1 (maxL_is hne) fun g1 g2 => ?_ | obtain ⟨g1, g2⟩ := (maxL_is hne)))
          have a1 : numAt xs (argBest (fun i j => decide (numAt xs i > numAt xs j)) (xs.size - 1)) ∈ ns := by
            rw [hns, numAt_eq]; exact getD_mem (by rw [List.length_map, Array.length_toList]; lia)
          have a2 := g2 _ a1
          have a3 : maxL ns ≤ numAt xs (argBest (fun i j => decide (numAt xs i > numAt xs j)) (xs.size - 1)) := by
            rw [hns] at g1
            ((first | refine x1_2 (mem_getD g1) fun j hj hjj => ?_ | obtain ⟨j, hj, hjj⟩ := (mem_getD g1)))
            rw [List.length_map, Array.length_toList] at hj
            rw [← numAt_eq, ← hns] at hjj
            rw [← hjj]; exact h2 j (by lia)
          rw [show maxL ns = _ from Int.le_antisymm a3 a2]
          exact .int _ _
  · cases q
theorem ok_minL : BltOk c (.builtin "min") bMinL := by
  intro A s W st vs vs' r rm iv rv q
  unfold bMinL at q
  split at q
  · refine bindO q fun ns q₁ q => ?_
    split at q
    · cases q
    · rename_i hne
      cases q
      ((first | refine x1_2 (vs_one rv) fun _ eE62 ra => ?_ | obtain ⟨_, eE62, ra⟩ := (vs_one rv)); subst eE62)
      ((first | refine x4_4 (lst_rel ra) fun _ _ _ _ eE63 f cd rs => ?_ | obtain ⟨_, _, _, _, eE63, f, cd, rs⟩ := (lst_rel ra)); subst eE63)
      ·
          have cl := cd.cls
          have d := cd.data
          ((first | refine x1_2 (ints_items (W := W) (ints_of rs q₁)) fun xs e hns => ?_ | obtain ⟨xs, e, hns⟩ := (ints_items (W := W) (ints_of rs q₁))))
          have hsz : 0 < xs.size := by
            rcases Nat.eq_zero_or_pos xs.size with z | z
            · exact absurd (by rw [hns, Array.eq_empty_of_size_eq_zero z]; rfl) hne
            · exact z
          refine doesHere (fun Q h => min_intList rm.handled ⟨_, iv.froz _ _ f, cl, _, e ▸ d⟩ hsz fun v h' tk hv hk => h _ _ _ hk ?_) iv
          ((first | refine x0_2 (intItems_at hv) fun t eE64 => ?_ | refine x1_1 (intItems_at hv) fun t eE64 => ?_ | obtain ⟨t, eE64⟩ := (intItems_at hv)); subst eE64)
          ((first | refine x0_2 (argBest_lt (numAt xs) (xs.size - 1)) fun h1 h2 => ?_ | refine x1_1 (argBest_lt (numAt xs) (xs.size - 1)) fun h1 h2 => ?_ | obtain ⟨h1, h2⟩ := (argBest_lt (numAt xs) (xs.size - 1))))
          ((first | refine x0_2 (minL_is hne) fun g1 g2 => ?_ | refine x1_1 (minL_is hne) fun g1 g2 => ?_ | obtain ⟨g1, g2⟩ := (minL_is hne)))
          have a1 : numAt xs (argBest (fun i j => decide (numAt xs i < numAt xs j)) (xs.size - 1)) ∈ ns := by
            rw [hns, numAt_eq]; exact getD_mem (by rw [List.length_map, Array.length_toList]; lia)
          have a2 := g2 _ a1
          have a3 : numAt xs (argBest (fun i j => decide (numAt xs i < numAt xs j)) (xs.size - 1)) ≤ minL ns := by
            rw [hns] at g1
            ((first | refine x1_2 (mem_getD g1) fun j hj hjj => ?_ | obtain ⟨j, hj, hjj⟩ := (mem_getD g1)))
            rw [List.length_map, Array.length_toList] at hj
            rw [← numAt_eq, ← hns] at hjj
            rw [← hjj]; exact h2 j (by lia)
          rw [show minL ns = _ from Int.le_antisymm a2 a3]
          exact .int _ _
  · cases q
noncomputable def small40 (ns : List Int) : Bool := ns.all (fun n => decide (-(2 ^ 40) ≤ n) && decide (n ≤ 2 ^ 40)) && decide (ns.length ≤ 1000000)
noncomputable def bSum : List V → Option V | [.lst vs] => (vInts vs).bind fun ns => if small40 ns then some (.int ns.sum) else none | _ => none
theorem sum_bound {ns : List Int} (h : ∀ n ∈ ns, -(2 ^ 40) ≤ n ∧ n ≤ 2 ^ 40) : -(2 ^ 40 * (ns.length : Int)) ≤ ns.sum ∧ ns.sum ≤ 2 ^ 40 * (ns.length : Int) := by
  induction ns with
  | nil => simp
  | cons n r ih =>
    have := ih fun x hx => h x (List.mem_cons_of_mem _ hx)
    have := h n List.mem_cons_self
    simp only [List.sum_cons, List.length_cons]
    push_cast
    lia
theorem small_fits {ns : List Int} (h : small40 ns = true) : PySem.SumFits ns := by
  unfold small40 at h
  rw [Bool.and_eq_true, List.all_eq_true, decide_eq_true_eq] at h
  ((first | refine x0_2 h fun h1 h2 => ?_ | obtain ⟨h1, h2⟩ := h); try clear h)
  have h1 : ∀ n ∈ ns, -(2 ^ 40) ≤ n ∧ n ≤ 2 ^ 40 := fun n hn => by have := h1 n hn; rw [Bool.and_eq_true, decide_eq_true_eq, decide_eq_true_eq] at this; exact this
  intro j hj
  have b := sum_bound (ns := ns.take (j + 1)) fun n hn => h1 n (List.mem_of_mem_take hn)
  have l : ((ns.take (j + 1)).length : Int) ≤ 1000000 := by
    have : (ns.take (j + 1)).length ≤ ns.length := by rw [List.length_take]; lia
    lia
  have a := h1 _ (getD_mem hj)
  unfold InLong
  lia
theorem ok_sum : BltOk c (.builtin "sum") bSum := by
  intro A s W st vs vs' r rm iv rv q
  unfold bSum at q
  split at q
  · refine bindO q fun ns q₁ q => ?_
    split at q
    · rename_i hok
      cases q
      ((first | refine x1_2 (vs_one rv) fun _ eE65 ra => ?_ | obtain ⟨_, eE65, ra⟩ := (vs_one rv)); subst eE65)
      ((first | refine x4_4 (lst_rel ra) fun _ _ _ _ eE66 f cd rs => ?_ | obtain ⟨_, _, _, _, eE66, f, cd, rs⟩ := (lst_rel ra)); subst eE66)
      ·
          have cl := cd.cls
          have d := cd.data
          ((first | refine x1_2 (ints_items (W := W) (ints_of rs q₁)) fun xs e hns => ?_ | obtain ⟨xs, e, hns⟩ := (ints_items (W := W) (ints_of rs q₁))))
          have hf := small_fits hok
          have hlen : ns.length = xs.size := by rw [hns, List.length_map, Array.length_toList]
          refine doesHere (fun Q h => sum_intList rm.handled ⟨_, iv.froz _ _ f, cl, _, e ▸ d⟩ (fun j hj => ?_) fun h' tk t' hk => h _ _ _ hk ?_) iv
          · have := hf j (by lia)
            rw [numAt_eq, preSum_eq, ← hns]; exact this
          · rw [preSum_eq, ← hns, ← hlen, List.take_length]
            exact .int _ _
    · cases q
  · cases q
noncomputable def bAbs : List V → Option V | [.int a] => some (.int (a.natAbs : Int)) | _ => none
theorem ok_abs : BltOk c (.builtin "abs") bAbs := by
  intro A s W st vs vs' r rm iv rv q
  unfold bAbs at q
  split at q
  · cases q
    ((first | refine x1_2 (vs_one rv) fun _ eE67 ra => ?_ | obtain ⟨_, eE67, ra⟩ := (vs_one rv)); subst eE67)
    ((first | refine x1_1 (int_rel ra) fun t eE68 => ?_ | obtain ⟨t, eE68⟩ := (int_rel ra)); subst eE68)
    ·
      refine doesHere (fun Q h => call_abs_int fun u tk => h _ _ _ (fun _ _ e => e) ?_) iv
      rename_i a
      have e : (if a < 0 then -a else a) = (a.natAbs : Int) := by split <;> lia
      rw [e]; exact .int _ _
  · cases q
noncomputable def bLen : List V → Option V | [.lst vs] => if vs.length ≤ 1000000 then some (.int vs.length) else none | _ => none
theorem ok_len : BltOk c (.builtin "len") bLen := by
  intro A s W st vs vs' r rm iv rv q
  unfold bLen at q
  split at q
  · split at q
    · rename_i hlen
      cases q
      ((first | refine x1_2 (vs_one rv) fun _ eE69 ra => ?_ | obtain ⟨_, eE69, ra⟩ := (vs_one rv)); subst eE69)
      ((first | refine x4_4 (lst_rel ra) fun _ _ _ _ eE70 f cd rs => ?_ | obtain ⟨_, _, _, _, eE70, f, cd, rs⟩ := (lst_rel ra)); subst eE70)
      ·
          have cl := cd.cls
          have d := cd.data
          have hl := (rs.length).trans Array.length_toList
          refine doesHere (fun Q h => call_len_list ⟨_, iv.froz _ _ f, cl, _, d⟩ (by lia) (h _ _ _ (fun _ _ e => e) ?_)) iv
          rw [hl]; exact .int _ _
    · cases q
  · cases q
noncomputable def bRange : List V → Option V
  | [.int n] => some (.rng 0 n 1)
  | [.int a, .int b] => some (.rng a b 1)
  | [.int a, .int b, .int d] => if d ≠ 0 ∧ d.natAbs < 1000000 then some (.rng a b d) else none
  | _ => none
theorem ok_range : BltOk c (.type "range") bRange := by
  intro A s W st vs vs' r rm iv rv q
  have fin : ∀ (a b d : Int) (t u v : Tok) (tk : Nat), ∃ W', End1 c.h₀ W s st (VRel W' (.rng a b d) (.ref s.heap.objs.size)) { s with heap := s.heap.push { cls := .type "range", data := .fields #[.int a t, .int b u, .int d v] }, toks := tk } W' := fun a b d t u v tk => by
    ((first | refine x0_2 (iv.push { cls := .type "range", data := .fields #[.int a t, .int b u, .int d v] } rfl) fun i y => ?_ | refine x1_1 (iv.push { cls := .type "range", data := .fields #[.int a t, .int b u, .int d v] } rfl) fun i y => ?_ | obtain ⟨i, y⟩ := (iv.push { cls := .type "range", data := .fields #[.int a t, .int b u, .int d v] } rfl)))
    exact ⟨_, i, y, ⟨rfl, rfl⟩, .rng (Wd.freeze_self _ _ _)⟩
  unfold bRange at q
  split at q
  · cases q
    cases rv with
    | cons ra rv =>
      cases rv; cases ra
      exact call_range_1 (fin _ _ _ _ _ _ _)
  · cases q
    ((first | refine x2_3 (vs_two rv) fun _ _ eE71 ra rb => ?_ | obtain ⟨_, _, eE71, ra, rb⟩ := (vs_two rv)); subst eE71)
    ((first | refine x0_2 (int_rel ra) fun _ eE72 => ?_ | refine x1_1 (int_rel ra) fun _ eE72 => ?_ | obtain ⟨_, eE72⟩ := (int_rel ra)); subst eE72)
    ((first | refine x0_2 (int_rel rb) fun _ eE73 => ?_ | refine x1_1 (int_rel rb) fun _ eE73 => ?_ | obtain ⟨_, eE73⟩ := (int_rel rb)); subst eE73)
    · 
        exact call_range_2 (fin _ _ _ _ _ _ _)
  · split at q
    · rename_i hd
      cases q
      cases rv with
      | cons ra rv => cases rv with
        | cons rb rv => cases rv with
          | cons rc rv =>
            cases rv; cases ra; cases rb; cases rc
            exact call_range_3 hd.1 (fin _ _ _ _ _ _ _) (.inl (PyProof.noPylong_small (by lia)))
    · cases q
  · cases q
noncomputable def bTuple : List V → Option V | [.lst vs] => if vs.length ≤ 1000000 then some (.tup vs) else none | _ => none
theorem ok_tuple : BltOk c (.type "tuple") bTuple := by
  intro A s W st vs vs' r rm iv rv q
  unfold bTuple at q
  split at q
  · split at q
    · rename_i hlen
      cases q
      ((first | refine x1_2 (vs_one rv) fun _ eE74 ra => ?_ | obtain ⟨_, eE74, ra⟩ := (vs_one rv)); subst eE74)
      ((first | refine x4_4 (lst_rel ra) fun _ _ _ _ eE75 f cd rs => ?_ | obtain ⟨_, _, _, _, eE75, f, cd, rs⟩ := (lst_rel ra)); subst eE75)
      ·
          have cl := cd.cls
          have d := cd.data
          have hl := (rs.length).trans Array.length_toList
          refine call_tuple_list ⟨_, iv.froz _ _ f, cl, _, d⟩ (fun h' hk => ?_) (lineOf (by lia))
          have i₁ := iv.grow hk
          ((obtain ⟨i₂, y₂⟩ := (i₁.push _ (show Obj.isFreed { cls := .type "tuple", data := .seq _ } = false from rfl))))
          exact ⟨_, i₂, (Step.grow hk).trans y₂, ⟨rfl, rfl⟩, .tup (Wd.freeze_self _ _ _) rfl (rs.mono y₂.le)⟩
    · cases q
  · cases q
noncomputable def bList : List V → Option V | [.lst vs] => if vs.length ≤ 1000000 then some (.lst vs) else none | _ => none
theorem ok_list : BltOk c (.type "list") bList := by
  intro A s W st vs vs' r rm iv rv q
  unfold bList at q
  split at q
  · split at q
    · rename_i hlen
      cases q
      ((first | refine x1_2 (vs_one rv) fun _ eE76 ra => ?_ | obtain ⟨_, eE76, ra⟩ := (vs_one rv)); subst eE76)
      ((first | refine x4_4 (lst_rel ra) fun _ _ _ _ eE77 f cd rs => ?_ | obtain ⟨_, _, _, _, eE77, f, cd, rs⟩ := (lst_rel ra)); subst eE77)
      ·
          have cl := cd.cls
          have d := cd.data
          have hl := (rs.length).trans Array.length_toList
          refine call_list_seq _ (.inl rfl) (iv.froz _ _ f) cl d (fun h' c' hk hn => ?_) (lineOf (by lia))
          have o := iv.out (heap_out s.heap)
          have i₁ := iv.grow hk
          ((first | refine x0_2 (i₁.freezeNew hn o) fun i₂ L => ?_ | obtain ⟨i₂, L⟩ := (i₁.freezeNew hn o)))
          exact ⟨_, i₂, (Step.grow hk).freezeNew (heap_out _) o, ⟨rfl, rfl⟩, .lst (Wd.freeze_self _ _ _) rfl (rs.mono L)⟩
    · cases q
  · cases q
end
end Mine
namespace Mine
/-! owned lists -/
section
variable {sc : Scope} {env : Env} {e : Snap1} {W : Wd} {ρ : Rho}
theorem EnvS.storedOwn {h h' : Heap} {x : String} {vs : List V} {a : Addr} {t : Addr} (S : EnvS sc env e W ρ h) (T : Stored env h h' (Str.ofString x) (.ref a) t) (out : Out W a) (ga : e.g a = none)
    (ha : ∃ (o : Obj) (items : Array Value) (n : Nat), h.get? a = some o ∧ LObj "list" o items n ∧ VsRel W vs items.toList) (al : a ≠ env.locals) (ac : ∀ y c, env.cells.lookup y = some c → a ≠ c)
    (nw : ∀ y us b, ρ y = some (.own us) → OwnAt env e W h y b us → b ≠ a) : EnvS sc env e W (ρ.set x (.own vs)) h' := by
  have tl : ∀ a : Addr, a ≠ env.locals → (∀ y c, env.cells.lookup y = some c → a ≠ c) → a ≠ t := fun a n1 n2 z => by
    rcases T.tis with q | ⟨q, _⟩
    · exact n1 (z.trans q)
    · exact n2 _ _ q z
  have lv : ∃ o, h'.get? env.locals = some o := by ((first | refine x3_3 T.ns fun m o es ep q _ => ?_ | refine x4_2 T.ns fun m o es ep q _ => ?_ | obtain ⟨m, o, es, ep, q, _⟩ := T.ns)); exact ⟨o, q⟩
  refine ⟨⟨S.ok.kind, S.ok.globals, S.ok.builtins, S.ok.glob, S.ok.fr, ⟨S.ok.locals.1, lv⟩, fun y c q => ⟨(S.ok.cells y c q).1, ?_⟩, fun y u q n => ?_⟩, S.lnew, S.lfz, T.ns, S.loc, fun y hy => ?_, S.apart, S.lcell, ?_⟩
  · ((first | refine x1_2 (S.ok.cells y c q) fun n o z => ?_ | obtain ⟨n, o, z⟩ := (S.ok.cells y c q)))
    by_cases hc : c = t
    · subst hc; exact T.ex
    · exact ⟨o, (T.but.2 c hc).trans z⟩
  · unfold Rho.set at q
    split at q
    · cases q; exact absurd rfl (n vs)
    · rename_i hy
      ((first | refine x1_2 (S.ok.vars y u q n) fun u' a b => ?_ | obtain ⟨u', a, b⟩ := (S.ok.vars y u q n)))
      exact ⟨u', T.other _ _ (fun z => hy (ofString_inj z)) a, b⟩
  · ((obtain ⟨k, c, o, v₀, a, b, d, f, g⟩ := (S.cel y hy)))
    by_cases hc : c = t
    · subst hc
      rcases T.tis with q | ⟨q, o', v₁, z1, z2⟩
      · exact absurd q (S.lcell y c a)
      · exact ⟨k, c, o', v₁, a, z1, z2, f, g⟩
    · exact ⟨k, c, o, v₀, a, (T.but.2 c hc).trans b, d, f, g⟩
  · ((first | refine x1_2 S.own fun ow o1 o2 => ?_ | obtain ⟨ow, o1, o2⟩ := S.own))
    refine ⟨fun y => if y = x then a else ow y, fun y us q => ?_, fun y z us ws q q' => ?_⟩
    · dsimp only
      unfold Rho.set at q
      by_cases hy : y = x
      · rw [if_pos hy] at q; cases q
        subst hy
        rw [if_pos rfl]
        ((first | refine x3_3 ha fun o items n q1 q2 q4 => ?_ | refine x4_2 ha fun o items n q1 q2 q4 => ?_ | obtain ⟨o, items, n, q1, q2, q4⟩ := ha); try clear ha)
        exact ⟨T.here, ⟨o, items, n, (T.but.2 _ (tl _ al ac)).trans q1, q2, q4⟩, out.1, out.2, ga, al, ac⟩
      · rw [if_neg hy] at q
        rw [if_neg hy]
        ((first | refine x0_7 (o1 y us q) fun b1 xE78 b d f g i => ?_ | obtain ⟨b1, xE78, b, d, f, g, i⟩ := (o1 y us q)); ((first | refine x3_3 xE78 fun o items n q1 q2 q4 => ?_ | refine x4_2 xE78 fun o items n q1 q2 q4 => ?_ | obtain ⟨o, items, n, q1, q2, q4⟩ := xE78); try clear xE78))
        exact ⟨T.other _ _ (fun z => hy (ofString_inj z)) b1, ⟨o, items, n, (T.but.2 _ (tl _ g i)).trans q1, q2, q4⟩, b, d, f, g, i⟩
    · dsimp only
      unfold Rho.set at q q'
      by_cases hy : y = x
      · by_cases hz : z = x
        · intro _; rw [hy, hz]
        · rw [if_neg hz] at q'
          rw [if_pos hy, if_neg hz]
          intro w
          exact absurd w.symm (nw z ws (ow z) q' (o1 z ws q'))
      · by_cases hz : z = x
        · rw [if_neg hy] at q
          rw [if_neg hy, if_pos hz]
          intro w
          exact absurd w (nw y us (ow y) q (o1 y us q))
        · rw [if_neg hy] at q
          rw [if_neg hz] at q'
          rw [if_neg hy, if_neg hz]
          exact o2 y z us ws q q'
end
noncomputable def sOwn (x : String) (r : Den (List V)) : SDen := fun ρ st => (r ρ st).bind fun q => if q.1.length ≤ 1000000 then some (.next, ρ.set x (.own q.1), q.2) else none
noncomputable def sPush (x : String) (a : Den V) : SDen := fun ρ st => match ρ x with
  | some (.own vs) => (a ρ st).bind fun p => if vs.length ≤ 1000000 then some (.next, ρ.set x (.own (vs ++ [p.1])), p.2) else none
  | _ => none
noncomputable def sExt (x : String) (a : Den V) : SDen := fun ρ st => match ρ x with
  | some (.own vs) => (a ρ st).bind fun p => match p.1 with
    | .lst us => if vs.length + us.length ≤ 1000000 then some (.next, ρ.set x (.own (vs ++ us)), p.2) else none
    | _ => none
  | _ => none
section
variable {c : Cx} {lv : Nat} {sc : Scope}
theorem x_own {x : String} {pos' pos lp : Pos} {elts : List Expr} {r : Den (List V)} (hr : EsSound c lv sc elts r) (hx : sc.names.lookup (Str.ofString x) = some .local ∨ sc.names.lookup (Str.ofString x) = some .cell) : XSound c lv sc (.Assign [.Name (Str.ofString x) pos'] (.List elts lp) pos) (sOwn x r) := by
  intro A env e s W ρ ρ' st st' fl rm S iv t z q
  refine hide fun G kG => ?_
  refine bindP q fun vs st₁ q₁ q => ?_
  split at q
  rotate_left
  · cases q
  rename_i hlen
  cases q
  refine kG ?_
  refine wpAny_Assign_Name (wpAny_List ((hr A env s W ρ st st₁ vs lp rm S.ok iv q₁).to fun W₁ vs' s₁ i₁ y₁ z₁ r₁ => ⟨lineOf (r₁.length ▸ hlen), ?_⟩)) rfl
  have S₁ := S.step y₁
  have t₁ := t.trans y₁
  have kp : ∀ (b : Addr) (p : Obj), s₁.heap.get? b = some p → (s₁.heap.push { cls := .type "list", data := .seq vs'.toArray }).get? b = some p := fun b p q => Heap.get?_push_of_some _ q
  have S₂ := S₁.step (Step.grow (W := W₁) kp)
  have i₂ := i₁.grow kp
  have t₂ := t₁.trans (Step.grow (W := W₁) kp)
  have hg : (s₁.heap.push { cls := .type "list", data := .seq vs'.toArray }).get? s₁.heap.objs.size = some { cls := .type "list", data := .seq vs'.toArray } := Heap.get?_push_size _ rfl
  have out : Out W₁ s₁.heap.objs.size := i₁.out (heap_out _)
  have fresh : ∀ (a : Addr) (p : Obj), s₁.heap.get? a = some p → a ≠ s₁.heap.objs.size := fun a p w => Nat.ne_of_lt (Heap.lt_size w)
  have ga : e.g s₁.heap.objs.size = none := by
    cases w : e.g s₁.heap.objs.size with
    | none => rfl
    | some p => ((first | refine x0_2 (t₁.alive _ _ w) fun p' w' => ?_ | refine x1_1 (t₁.alive _ _ w) fun p' w' => ?_ | obtain ⟨p', w'⟩ := (t₁.alive _ _ w))); exact absurd rfl (fresh _ _ w')
  refine store_raw S₂ hx fun h' tk tt T f n g => ?_
  refine ⟨W₁, i₂.turn T.but f n, t₂.turn T.but g, ⟨z₁.gens.trans z.gens, z₁.os.trans z.os⟩, rfl, S₂.storedOwn T out ga ⟨_, _, _, hg, rfl, by simpa using r₁⟩ ?_ (fun y cc q => ?_) (fun y us b q o => ?_)⟩
  · ((first | refine x0_2 S₁.ok.locals.2 fun o w => ?_ | refine x1_1 S₁.ok.locals.2 fun o w => ?_ | obtain ⟨o, w⟩ := S₁.ok.locals.2)); exact (fresh _ _ w).symm
  · ((first | refine x0_3 (S₁.ok.cells y cc q) fun _ o w => ?_ | refine x1_2 (S₁.ok.cells y cc q) fun _ o w => ?_ | obtain ⟨_, o, w⟩ := (S₁.ok.cells y cc q))); exact (fresh _ _ w).symm
  · ((first | refine x0_3 S₁.own fun ow o1 _ => ?_ | refine x1_2 S₁.own fun ow o1 _ => ?_ | obtain ⟨ow, o1, _⟩ := S₁.own))
    ((first | refine x0_3 (o1 y us q) fun v1 xE79 _ => ?_ | refine x1_2 (o1 y us q) fun v1 xE79 _ => ?_ | obtain ⟨v1, xE79, _⟩ := (o1 y us q)); ((first | refine x3_2 xE79 fun ob items n q1 q2 => ?_ | obtain ⟨ob, items, n, q1, q2⟩ := xE79); try clear xE79))
    ((first | refine x0_2 o fun v2 _ => ?_ | refine x1_1 o fun v2 _ => ?_ | obtain ⟨v2, _⟩ := o); try clear o)
    have same : (.ref b : Value) = .ref (ow y) := by
      have v1 := v1.step (Step.grow (W := W₁) kp) S₁.ok.locals.1 fun z c q => (S₁.ok.cells z c q).1
      rcases v1 with ⟨k, m, n1, m1⟩ | ⟨k, c1, e1, n1⟩ <;> rcases v2 with ⟨k', m', n2, m2⟩ | ⟨k', c2, e2, n2⟩
      · ((first | refine x3_4 n1 fun o es ep a1 a2 a3 a4 => ?_ | obtain ⟨o, es, ep, a1, a2, a3, a4⟩ := n1); try clear n1)
        ((first | refine x3_4 n2 fun o' es' ep' b1 b2 b3 b4 => ?_ | obtain ⟨o', es', ep', b1, b2, b3, b4⟩ := n2); try clear n2)
        rw [a1] at b1; cases b1; rw [a2] at b2; cases b2
        rw [← a4] at m1; rw [← b4] at m2; rw [m1] at m2; exact (Option.some.inj m2).symm
      · rcases k' with k' | k' <;> (rw [k] at k'; cases k')
      · rcases k with k | k <;> (rw [k'] at k; cases k)
      · rw [e1] at e2; cases e2
        ((first | refine x0_3 n1 fun o a1 a2 => ?_ | refine x1_2 n1 fun o a1 a2 => ?_ | obtain ⟨o, a1, a2⟩ := n1); try clear n1)
        ((first | refine x0_3 n2 fun o' b1 b2 => ?_ | refine x1_2 n2 fun o' b1 b2 => ?_ | obtain ⟨o', b1, b2⟩ := n2); try clear n2)
        rw [a1] at b1; cases b1; rw [a2] at b2; cases b2; rfl
    cases same
    exact fresh _ _ q1
/-- an owned list turned -/
theorem EnvS.turnOwn {env : Env} {e : Snap1} {W : Wd} {ρ : Rho} {h h' : Heap} {x : String} {vs us : List V} {a : Addr} (S : EnvS sc env e W ρ h) (hx : ρ x = some (.own vs)) (ow : String → Addr) (o1 : ∀ x vs, ρ x = some (.own vs) → OwnAt env e W h x (ow x) vs) (o2 : ∀ x y vs us, ρ x = some (.own vs) → ρ y = some (.own us) → ow x = ow y → x = y)
    (ea : ow x = a) (b : Heap.SameBut a h h') (ha : ∃ (o : Obj) (items : Array Value) (n : Nat), h'.get? a = some o ∧ LObj "list" o items n ∧ VsRel W us items.toList) : EnvS sc env e W (ρ.set x (.own us)) h' := by
  subst ea
  obtain ⟨va, _, f1, f2, f3, f4, f5⟩ := o1 x vs hx
  have hl : env.locals ≠ ow x := f4.symm
  have hc : ∀ y c, env.cells.lookup y = some c → c ≠ ow x := fun y c q => (f5 y c q).symm
  refine ⟨⟨S.ok.kind, S.ok.globals, S.ok.builtins, S.ok.glob, S.ok.fr, ⟨S.ok.locals.1, ?_⟩, fun y c q => ⟨(S.ok.cells y c q).1, ?_⟩, fun y v q n => ?_⟩, S.lnew, S.lfz, ?_, S.loc, fun y hy => ?_, S.apart, S.lcell, ow, fun y ws hy => ?_, fun y z ws xs q q' => ?_⟩
  · obtain ⟨o, q⟩ := S.ok.locals.2; exact ⟨o, (b.2 _ hl).trans q⟩
  · obtain ⟨o, z⟩ := (S.ok.cells y c q).2; exact ⟨o, (b.2 _ (hc y c q)).trans z⟩
  · unfold Rho.set at q
    split at q
    · cases q; exact absurd rfl (n us)
    · obtain ⟨v', a, r⟩ := S.ok.vars y v q n; exact ⟨v', a.ext b.extBut hl hc, r⟩
  · obtain ⟨m, o, es, ep, q, r⟩ := S.ns; exact ⟨m, o, es, ep, (b.2 _ hl).trans q, r⟩
  · obtain ⟨kd, cc, o, v, a, b', d, f, g⟩ := S.cel y hy; exact ⟨kd, cc, o, v, a, (b.2 _ (hc _ _ a)).trans b', d, f, g⟩
  · unfold Rho.set at hy
    by_cases e : y = x
    · rw [if_pos e] at hy; cases hy; subst e
      exact ⟨va.ext b.extBut hl hc, ha, f1, f2, f3, f4, f5⟩
    · rw [if_neg e] at hy
      obtain ⟨a, ⟨o, items, n, q1, q2⟩, b', d, f, r⟩ := o1 y ws hy
      exact ⟨a.ext b.extBut hl hc, ⟨o, items, n, (b.2 _ fun z => e (o2 y x ws vs hy hx z)).trans q1, q2⟩, b', d, f, r⟩
  · unfold Rho.set at q q'
    have q2 : ∃ vs', ρ y = some (.own vs') := by
      by_cases e : y = x
      · exact ⟨vs, e ▸ hx⟩
      · rw [if_neg e] at q; exact ⟨_, q⟩
    have q3 : ∃ vs', ρ z = some (.own vs') := by
      by_cases e : z = x
      · exact ⟨vs, e ▸ hx⟩
      · rw [if_neg e] at q'; exact ⟨_, q'⟩
    obtain ⟨_, q2⟩ := q2
    obtain ⟨_, q3⟩ := q3
    exact o2 y z _ _ q2 q3
/-- the name of an owned list -/
theorem own_name {A : Around} {env : Env} {e : Snap1} {s : Shared} {W : Wd} {ρ : Rho} {x : String} {p : Pos} {a : Addr} {Q : Value → Shared → Prop} {E : Value → Shared → Prop} (S : EnvS sc env e W ρ s.heap) (va : VarAt env s.heap (Str.ofString x) (.ref a)) (h : Q (.ref a) s)
    (hd : (Str.ofString x == ("__debug__" : Str)) = false) (hn : (Str.ofString x == ("__classdict__" : Str)) = false) : wpAny c.M A (eval (.Name (Str.ofString x) p) env) Q E s := by
  refine wpAny_Name ?_ hd
  rcases va with ⟨k, m, n, q⟩ | ⟨k | k, cc, e, o⟩
  · exact wpAny_loadName_local S.ok.kind k n q h
  · exact wpAny_loadName_cell S.ok.kind k e o h
  · exact wpAny_loadName_free S.ok.kind k e o h hn
theorem interactive_fn {env : Env} (h : env.scope.kind = .function) : interactive env = false := by
  unfold interactive; rw [h]; rfl
theorem x_push {x : String} {p ap pos spos : Pos} {arg : Expr} {a : Den V} (ha : EsSound c lv sc [arg] (dCons a dNil))
    (he : ∀ env, ∃ pl, eval (.Call (.Attribute (.Name (Str.ofString x) p) "append" ap) [arg] [] pos) env = (do
      let ov ← eval (.Name (Str.ofString x) p) env
      standAt ap.atName
      let (f, first) ← holding [ov] (getMethod ov "append" pl)
      callWith pos f first (backTo pos (starEach [arg] env)) (backToKw pos (keywordEach [] env))))
    (hns : NoStar [arg]) (hp : ∀ env, (backTo pos (starEach [arg] env)).any (·.1) = false)
    (hd : (Str.ofString x == ("__debug__" : Str)) = false) (hn : (Str.ofString x == ("__classdict__" : Str)) = false) :
    XSound c lv sc (.Expr (.Call (.Attribute (.Name (Str.ofString x) p) "append" ap) [arg] [] pos) spos) (sPush x a) := by
  intro A env e s W ρ ρ' st st' fl rm S iv t z q
  refine hide fun G kG => ?_
  unfold sPush at q
  split at q
  rotate_left
  · cases q
  rename_i vs hx
  refine bindP q fun u st₁ q₁ q => ?_
  split at q
  rotate_left
  · cases q
  rename_i hlen
  cases q
  obtain ⟨ow, o1, o2⟩ := S.own
  obtain ⟨va, ⟨o, items, n, g1, g2, g4⟩, f1, f2, f3, f4, f5⟩ := o1 x vs hx
  refine kG ?_
  refine wpAny_Expr_any ?_ (interactive_fn S.ok.kind) rfl
  obtain ⟨pl, he⟩ := he env
  refine methodCall_KW (pl := pl) (own_name S va ?_ hd hn) he
  refine getMethod_list_append g1 g2.cls (by rw [g2]) ?_
  refine Calls.callWith_builtin (hp env) (args_then rm S.ok iv ha (show dCons a dNil ρ st = some ([u], st₁) by unfold dCons dNil; rw [q₁]; rfl) (hns env pos) fun W₁ vs' s₁ i₁ y₁ z₁ r₁ => ?_)
  obtain ⟨u', rfl, ru⟩ := vs_one r₁
  ·
    have g1' := y₁.keep _ _ g1 f2
    have S₁ := S.step y₁
    have o1' : ∀ y us, ρ y = some (.own us) → OwnAt env e W₁ s₁.heap y (ow y) us := fun y us hy => by
      obtain ⟨a, ⟨o, items, n, q1, q2, q4⟩, b, d, f, g, i⟩ := o1 y us hy
      exact ⟨a.step y₁ S.ok.locals.1 (fun z c q => (S.ok.cells z c q).1), ⟨o, items, n, y₁.keep _ _ q1 d, q2, q4.mono y₁.le⟩, by rw [y₁.old _ o q1 d]; exact b, y₁.notin q1 d, f, g, i⟩
    have hsz : vs.length = items.size := g4.length.trans Array.length_toList
    refine wpAny_list_append_plain (l := ow x) (items := items) (hsz := by rw [← hsz]; exact lineOf hlen) ⟨n, by rw [g1', g2]⟩ fun h' hl hs => ?_
    obtain ⟨n', hl⟩ := hl
    have f1' := (o1' x vs hx).2.2.1
    have f2' := (o1' x vs hx).2.2.2.1
    exact ⟨W₁, i₁.turn hs f1' f2', (t.trans y₁).turn hs f3, ⟨z₁.gens.trans z.gens, z₁.os.trans z.os⟩, rfl, S₁.turnOwn hx ow o1' o2 rfl hs ⟨_, _, _, hl, rfl, by rw [Array.toList_push]; exact (g4.mono y₁.le).snoc ru⟩⟩
theorem x_ext {x : String} {p ap pos spos : Pos} {arg : Expr} {a : Den V} (ha : EsSound c lv sc [arg] (dCons a dNil))
    (he : ∀ env, ∃ pl, eval (.Call (.Attribute (.Name (Str.ofString x) p) "extend" ap) [arg] [] pos) env = (do
      let ov ← eval (.Name (Str.ofString x) p) env
      standAt ap.atName
      let (f, first) ← holding [ov] (getMethod ov "extend" pl)
      callWith pos f first (backTo pos (starEach [arg] env)) (backToKw pos (keywordEach [] env))))
    (hns : NoStar [arg]) (hp : ∀ env, (backTo pos (starEach [arg] env)).any (·.1) = false)
    (hd : (Str.ofString x == ("__debug__" : Str)) = false) (hn : (Str.ofString x == ("__classdict__" : Str)) = false) :
    XSound c lv sc (.Expr (.Call (.Attribute (.Name (Str.ofString x) p) "extend" ap) [arg] [] pos) spos) (sExt x a) := by
  intro A env e s W ρ ρ' st st' fl rm S iv t z q
  refine hide fun G kG => ?_
  unfold sExt at q
  split at q
  rotate_left
  · cases q
  rename_i vs hx
  refine bindP q fun u st₁ q₁ q => ?_
  split at q
  rotate_left
  · cases q
  rename_i us hu
  dsimp only at hu
  subst hu
  split at q
  rotate_left
  · cases q
  rename_i hlen
  cases q
  ((first | refine x1_2 S.own fun ow o1 o2 => ?_ | obtain ⟨ow, o1, o2⟩ := S.own))
  ((first | refine x0_7 (o1 x vs hx) fun va xE84 f1 f2 f3 f4 f5 => ?_ | obtain ⟨va, xE84, f1, f2, f3, f4, f5⟩ := (o1 x vs hx)); ((first | refine x3_3 xE84 fun o items n g1 g2 g4 => ?_ | obtain ⟨o, items, n, g1, g2, g4⟩ := xE84); try clear xE84))
  refine kG ?_
  refine wpAny_Expr_any ?_ (interactive_fn S.ok.kind) rfl
  ((first | refine x1_1 (he env) fun pl he => ?_ | obtain ⟨pl, he⟩ := (he env)))
  refine methodCall_KW (pl := pl) (own_name S va ?_ hd hn) he
  refine getMethod_list_of PySem.F.slot_list_extend PySem.F.type_list_extend (items := items) ⟨o, g1, g2.cls, n, g2.data⟩ ⟨o, g1, by rw [g2]⟩ ?_
  refine Calls.callWith_builtin (hp env) (args_then rm S.ok iv ha (show dCons a dNil ρ st = some ([.lst us], st₁) by unfold dCons dNil; rw [q₁]; rfl) (hns env pos) fun W₁ vs' s₁ i₁ y₁ z₁ r₁ => ?_)
  ((first | refine x1_2 (vs_one r₁) fun _ eE85 ru => ?_ | obtain ⟨_, eE85, ru⟩ := (vs_one r₁)); subst eE85)
  ((first | refine x4_4 (lst_rel ru) fun b ob its m eE86 k1 k2 k3 => ?_ | obtain ⟨b, ob, its, m, eE86, k1, k2, k3⟩ := (lst_rel ru)); subst eE86)
  ·
      have g1' := y₁.keep _ _ g1 f2
      have S₁ := S.step y₁
      have o1' : ∀ y us, ρ y = some (.own us) → OwnAt env e W₁ s₁.heap y (ow y) us := fun y us hy => by
        ((first | refine x0_7 (o1 y us hy) fun a xE87 b d f g i => ?_ | obtain ⟨a, xE87, b, d, f, g, i⟩ := (o1 y us hy)); ((first | refine x3_3 xE87 fun o items n q1 q2 q4 => ?_ | obtain ⟨o, items, n, q1, q2, q4⟩ := xE87); try clear xE87))
        exact ⟨a.step y₁ S.ok.locals.1 (fun z c q => (S.ok.cells z c q).1), ⟨o, items, n, y₁.keep _ _ q1 d, q2, q4.mono y₁.le⟩, by rw [y₁.old _ o q1 d]; exact b, y₁.notin q1 d, f, g, i⟩
      have hsz : vs.length = items.size := g4.length.trans Array.length_toList
      have hsz2 : us.length = its.size := k3.length.trans Array.length_toList
      have f1' := (o1' x vs hx).2.2.1
      have f2' := (o1' x vs hx).2.2.2.1
      rw [g2] at g1'
      have hb := i₁.froz _ _ k1
      rw [k2] at hb
      have lim : (2 : Nat) ^ 24 = sizeLine := rfl
      refine call_meets PySem.F.slot_list_extend ⟨_, g1', rfl⟩ PySem.F.entry_list_extend (PySem.F.args_list_extend_2 _ _) (PySem.AutoSeq1.list_extend_list_list_0 (ow x) items n b its m ?_ (by rw [← hsz, ← lim]; lia) (by rw [← hsz, ← hsz2, ← lim]; lia)) ⟨g1', hb, ?_⟩
      · unfold Builtin.List.listTooLong
        simp
        lia
      · have hs : Heap.SameBut (ow x) s₁.heap (s₁.heap.update (ow x) (Obj.mapSeq fun x => x ++ its)) := Heap.SameBut.update ..
        have hl := Heap.get?_update_self (Obj.mapSeq fun x => x ++ its) g1' (by rfl)
        refine ⟨W₁, i₁.turn hs f1' f2', (t.trans y₁).turn hs f3, ⟨z₁.gens.trans z.gens, z₁.os.trans z.os⟩, rfl, S₁.turnOwn hx ow o1' o2 rfl hs ?_⟩
        have rel : VsRel W₁ (vs ++ us) (items ++ its).toList := by rw [Array.toList_append]; exact (g4.mono y₁.le).app k3
        refine ⟨_, items ++ its, if its.size = 0 then n else n + 1, hl, ?_, rel⟩
        unfold LObj Obj.mapSeq
        simp
end
end Mine
namespace Mine
/-! a value unpacked -/
noncomputable def vUnpack : V → Option (List V)
  | .lst vs => some vs
  | .tup vs => some vs
  | _ => none
section
variable {c : Cx} {lv : Nat} {sc : Scope}
theorem draw_items {A : Around} {E : Value → Shared → Prop} {W : Wd} {st : St} {I : Addr} (nI : Out W I) : ∀ (l r : List V) (s : Shared) (Q : List Value → Shared → Prop), Inv c.h₀ W st s.heap → IterAt W s.heap I (l ++ r) →
    (∀ vs' h' tk, VsRel W l vs' → IterAt W h' I r → Heap.SameBut I s.heap h' → Q vs' { s with heap := h', toks := tk }) → wpAny c.M A (draw (.ref I) l.length) Q E s
  | [], r, s, Q, iv, it, h => wpAny_pure (h [] s.heap s.toks .nil it (Heap.SameBut.refl _ _))
  | v :: l, r, s, Q, iv, it, h => by
    show wpAny c.M A (pyNext (.ref I) >>= _) Q E s
    refine wpAny_bind (iter_next iv it nI.1 fun v' h' tk rv hs it' => ?_)
    refine wpAny_bind (wpAny_holding (draw_items nI l r _ _ (iv.turn hs nI.1 nI.2) it' fun vs' h'' tk' rl it'' hs' => wpAny_pure ?_))
    exact h (v' :: vs') h'' tk' (.cons rv rl) it'' (hs.trans hs')
theorem unpack_items {A : Around} {E : Value → Shared → Prop} {s : Shared} {W : Wd} {st : St} {v : V} {v' : Value} {l : List V} {Q : List Value → Shared → Prop} (hh : A.handled = none) (iv : Inv c.h₀ W st s.heap) (r : VRel W v v') (q : vUnpack v = some l) {n : Nat} (hn : n = l.length)
    (h : ∀ vs' h' tk, VsRel W l vs' → (∀ b o, s.heap.get? b = some o → h'.get? b = some o) → Q vs' { s with heap := h', toks := tk }) : wpAny c.M A (unpackItems v' n none) Q E s := by
  subst hn
  have qi : vIter v = some l := by cases v <;> simp only [vUnpack] at q <;> first | (cases q; rfl) | cases q
  have key : wpAny c.M A (do
      let it ← holding [v'] (pyIter v')
      let items ← holding [it] (draw it l.length)
      if items.length < l.length then
        rule "unpack.too-few"; raiseError "ValueError" s!"not enough values to unpack (expected {l.length}, got {items.length})"
      if (← holding items (pyNext it)).isSome then
        rule "unpack.too-many"; raiseError "ValueError" s!"too many values to unpack (expected {l.length})"
      return items) Q E s := by
    refine wpAny_bind (wpAny_holding (iter_make iv r qi fun o nf it => ?_))
    have out : Out W s.heap.objs.size := iv.out (heap_out _)
    refine wpAny_bind (wpAny_holding (draw_items out l [] _ _ (iv.grow fun b p q => Heap.get?_push_of_some _ q) (by rw [List.append_nil]; exact it) fun vs' h' tk rl it' hs => ?_))
    rw [if_neg (by rw [rl.length]; exact Nat.lt_irrefl _)]
    refine wpAny_bind (wpAny_holding (iter_end ((iv.grow fun b p q => Heap.get?_push_of_some _ q).turn hs out.1 out.2) hh it' fun h'' hx => ?_))
    simp only [Option.isSome_none, Bool.false_eq_true, if_false]
    refine wpAny_pure (h vs' h'' tk rl fun b o e => ?_)
    have : b ≠ s.heap.objs.size := Nat.ne_of_lt (Heap.lt_size e)
    exact hx b o this ((hs.2 b this).trans (Heap.get?_push_of_some _ e))
  unfold unpackItems
  refine wpAny_bind ?_
  unfold notIterableAtAll
  cases r <;> simp only [vUnpack] at q <;> try (cases q; done)
  case lst f cd rs => exact wpAny_bind (wpAny_specialOf (T := "list") ⟨_, iv.froz _ _ f, cd.cls⟩ slot_list_iter.lookup (wpAny_pure key))
  case tup f cd rs => exact wpAny_bind (wpAny_specialOf (T := "tuple") ⟨_, iv.froz _ _ f, cd.cls⟩ PySem.F.slot_tuple_iter.lookup (wpAny_pure key))
noncomputable def setAll : List String → List V → Rho → Rho
  | x :: xs, v :: vs, ρ => setAll xs vs (ρ.set x v)
  | _, _, ρ => ρ
noncomputable def sUnp (xs : List String) (a : Den V) : SDen := fun ρ st => (a ρ st).bind fun p => (vUnpack p.1).bind fun l => if l.length = xs.length then some (.next, setAll xs l ρ, p.2) else none
noncomputable def sUnpR (xs : List String) (a : Den V) : SDen := fun ρ st => (a ρ st).bind fun p => (vUnpack p.1).bind fun l => if l.length = xs.length then some (.next, setAll xs.reverse l.reverse ρ, p.2) else none
theorem VsRel.reverse {W : Wd} {vs : List V} {vs' : List Value} (x : VsRel W vs vs') : VsRel W vs.reverse vs'.reverse := by
  induction vs generalizing vs' with
  | nil => cases x; exact .nil
  | cons v r ih => cases x with | cons a b => simp only [List.reverse_cons]; exact (ih b).app (.cons a .nil)
theorem store_all {A : Around} {env : Env} {e : Snap1} {E : Value → Shared → Prop} (rm : Room A 0) {st : St} {W : Wd} (f : String → Value → Sem Unit)
    (hf : ∀ x v (s : Shared) (Q : Unit → Shared → Prop), wpAny c.M A (storeName env (Str.ofString x) v) Q E s → wpAny c.M A (f x v) Q E s) : ∀ (xs : List String) (l : List V) (vs' : List Value) (ρ : Rho) (s : Shared) (Q : Unit → Shared → Prop),
    (∀ x ∈ xs, sc.names.lookup (Str.ofString x) = some .local ∨ sc.names.lookup (Str.ofString x) = some .cell) → EnvS sc env e W ρ s.heap → Inv c.h₀ W st s.heap → StepG e.W e.g W s.heap → VsRel W l vs' → l.length = xs.length →
    (∀ s', Inv c.h₀ W st s'.heap → StepG e.W e.g W s'.heap → Same s s' → EnvS sc env e W (setAll xs l ρ) s'.heap → Q () s') → wpAny c.M A (assignInOrder (xs.map f) vs') Q E s := by
  intro xs
  induction xs with
  | nil =>
    intro l vs' ρ s Q hx S iv t r hl h
    cases r with
    | nil => exact wpAny_pure (h s iv t (Same.refl s) S)
    | cons _ _ => cases hl
  | cons x xs ih =>
    intro l vs' ρ s Q hx S iv t r hl h
    cases r with
    | nil => cases hl
    | cons rv rl =>
      refine assignInOrder_cons (hf _ _ _ _ (store_raw S (hx x List.mem_cons_self) fun h' tk tt T f1 n g => ?_))
      exact ih _ _ _ _ Q (fun y hy => hx y (List.mem_cons_of_mem _ hy)) (S.stored T rv) (iv.turn T.but f1 n) (t.turn T.but g) rl (by simpa using hl) fun s' a b c d => h s' a b ⟨c.gens, c.os⟩ d
noncomputable def nameAt (p : String × Pos) : Expr := .Name (Str.ofString p.1) p.2
theorem assignEach_names (env : Env) : ∀ ns : List (String × Pos), assignEach (ns.map nameAt) env = ns.map fun p => (false, assign (nameAt p) env)
  | [] => rfl
  | p :: r => by
    show assignEach (.Name (Str.ofString p.1) p.2 :: r.map nameAt) env = _
    rw [show assignEach (.Name (Str.ofString p.1) p.2 :: r.map nameAt) env = (false, assign (.Name (Str.ofString p.1) p.2) env) :: assignEach (r.map nameAt) env from rfl, assignEach_names env r]; rfl
theorem inOrder_map (env : Env) (ns : List (String × Pos)) : (assignEach (ns.map nameAt) env).map (·.2) = ns.map fun p => assign (nameAt p) env := by
  rw [assignEach_names, List.map_map]; rfl
/-- stores by the names' own trees -/
theorem store_each {A : Around} {env : Env} {e : Snap1} {E : Value → Shared → Prop} {st : St} {W : Wd} : ∀ (xs : List (String × Pos)) (l : List V) (vs' : List Value) (ρ : Rho) (s : Shared) (Q : Unit → Shared → Prop),
    (∀ x ∈ xs, sc.names.lookup (Str.ofString x.1) = some .local ∨ sc.names.lookup (Str.ofString x.1) = some .cell) → EnvS sc env e W ρ s.heap → Inv c.h₀ W st s.heap → StepG e.W e.g W s.heap → VsRel W l vs' → l.length = xs.length →
    (∀ s', Inv c.h₀ W st s'.heap → StepG e.W e.g W s'.heap → Same s s' → EnvS sc env e W (setAll (xs.map (·.1)) l ρ) s'.heap → Q () s') → wpAny c.M A (assignInOrder (xs.map fun p => assign (nameAt p) env) vs') Q E s := by
  intro xs
  induction xs with
  | nil =>
    intro l vs' ρ s Q hx S iv t r hl h
    cases r with
    | nil => exact wpAny_pure (h s iv t (Same.refl s) S)
    | cons _ _ => cases hl
  | cons x xs ih =>
    intro l vs' ρ s Q hx S iv t r hl h
    cases r with
    | nil => cases hl
    | cons rv rl =>
      refine assignInOrder_cons (PySem.wpAny_assign_Name (store_raw S (hx x List.mem_cons_self) fun h' tk tt T f1 n g => ?_))
      exact ih _ _ _ _ Q (fun y hy => hx y (List.mem_cons_of_mem _ hy)) (S.stored T rv) (iv.turn T.but f1 n) (t.turn T.but g) rl (by simpa using hl) fun s' a b c d => h s' a b ⟨c.gens, c.os⟩ d
theorem x_unp {ns : List (String × Pos)} {k : Nat} {tp pos : Pos} {val : Expr} {a : Den V} (ha : ESound c lv sc val a) (hx : ∀ x ∈ ns, sc.names.lookup (Str.ofString x.1) = some .local ∨ sc.names.lookup (Str.ofString x.1) = some .cell)
    (hs : ∀ env, swapsWithSole [.Tuple (ns.map nameAt) k tp] val pos.line env = pure false) (hw : ∀ env, swappedStores [.Tuple (ns.map nameAt) k tp] val env = pure none) :
    XSound c lv sc (.Assign [.Tuple (ns.map nameAt) k tp] val pos) (sUnp (ns.map (·.1)) a) := by
  intro A env e s W ρ ρ' st st' fl rm S iv t z q
  refine bindP q fun v st₁ q₁ q => ?_
  refine bindO q fun l q₂ q => ?_
  split at q
  rotate_left
  · cases q
  rename_i hl
  cases q
  rw [List.length_map] at hl
  refine Assign_Tuple ((ha A env s W ρ st st₁ v rm S.ok iv q₁).to fun W₁ v' s₁ i₁ y₁ z₁ r₁ => ?_) (hs env) (hw env)
  rw [arm_assign_Tuple]
  refine wpAny_bind (wpAny_standAt ?_)
  unfold unpack
  have hstar : (assignEach (ns.map nameAt) env).findIdx? (·.1) = none := by
    rw [assignEach_names, List.findIdx?_eq_none_iff]; intro x hx; ((first | refine x1_2 (List.mem_map.mp hx) fun p _ eE88 => ?_ | obtain ⟨p, _, eE88⟩ := (List.mem_map.mp hx)); subst eE88); rfl
  rw [hstar, inOrder_map]
  refine wpAny_bind (wpAny_holding (unpack_items rm.handled i₁ r₁ q₂ (by rw [assignEach_names, List.length_map, hl]) fun vs' h' tk rl hk => ?_))
  exact store_each ns l vs' ρ _ _ hx ((S.step y₁).step (Step.grow (W := W₁) hk)) (i₁.grow hk) ((t.trans y₁).trans (Step.grow (W := W₁) hk)) (rl) hl fun s' a b c d => ⟨W₁, a, b, ⟨c.gens.trans (z₁.gens.trans z.gens), c.os.trans (z₁.os.trans z.os)⟩, rfl, d⟩
theorem x_unpR {ns : List (String × Pos)} {k : Nat} {tp pos : Pos} {val : Expr} {a : Den V} (ha : ESound c lv sc val a) (hx : ∀ x ∈ ns, sc.names.lookup (Str.ofString x.1) = some .local)
    (hw : ∀ env : Env, (∀ x ∈ ns, env.kindOf (Str.ofString x.1) = some .local) → env.blockKind = .function → swappedStores [.Tuple (ns.map nameAt) k tp] val env = pure (some (ns.map fun p => Str.ofString p.1)))
    (hs : ∀ env, swapsWithSole [.Tuple (ns.map nameAt) k tp] val pos.line env = pure false) :
    XSound c lv sc (.Assign [.Tuple (ns.map nameAt) k tp] val pos) (sUnpR (ns.map (·.1)) a) := by
  intro A env e s W ρ ρ' st st' fl rm S iv t z q
  refine bindP q fun v st₁ q₁ q => ?_
  refine bindO q fun l q₂ q => ?_
  split at q
  rotate_left
  · cases q
  rename_i hl
  cases q
  have hb : env.blockKind = .function := by unfold Env.blockKind; rw [S.ok.kind]; rfl
  refine Assign_Tuple_swapped ((ha A env s W ρ st st₁ v rm S.ok iv q₁).to fun W₁ v' s₁ i₁ y₁ z₁ r₁ => ?_) (hs env) (hw env (fun x m => S.loc _ (hx x m)) hb)
  refine unpack_items rm.handled i₁ r₁ q₂ (by rw [List.length_map] at hl ⊢; exact hl.symm) fun vs' h' tk rl hk => ?_
  have em : ((ns.map fun p => Str.ofString p.1).reverse.map fun n => bindName env n) = ((ns.map (·.1)).reverse.map fun n => bindName env (Str.ofString n)) := by
    simp only [← List.map_reverse, List.map_map]; rfl
  rw [em]
  refine store_all (sc := sc) (e := e) (rm.less (Nat.zero_le _)) (fun n => bindName env (Str.ofString n)) (fun x v s Q h => wpAny_bindName h) (ns.map (·.1)).reverse l.reverse vs'.reverse ρ { s₁ with heap := h', toks := tk } _ (fun x m => ?_) ((S.step y₁).step (Step.grow (W := W₁) hk)) (i₁.grow hk) ((t.trans y₁).trans (Step.grow (W := W₁) hk)) rl.reverse (by rw [List.length_reverse, List.length_reverse]; exact hl) ?_
  · ((first | refine x1_2 (List.mem_map.mp (List.mem_reverse.mp m)) fun p hp eE89 => ?_ | obtain ⟨p, hp, eE89⟩ := (List.mem_map.mp (List.mem_reverse.mp m))); subst eE89)
    exact .inl (hx p hp)
  · intro s' a b c d
    exact ⟨W₁, a, b, ⟨c.gens.trans (z₁.gens.trans z.gens), c.os.trans (z₁.os.trans z.os)⟩, rfl, d⟩
theorem swap2 {x y : Str} {p q tp tp2 : Pos} {k k2 : Nat} {a b : Expr} {env : Env} (hx : env.kindOf x = some .local) (hy : env.kindOf y = some .local) (hb : env.blockKind = .function) (hl : (q.line == p.line) = true) (hne : (x == y) = false)
    (hst : ([a, b].any fun | .Starred .. => true | _ => false) = false) (hf : [a, b].all (foldedForSure 8) = false) (hc : [a, b].all (constantsAlone 8) = false) : swappedStores [.Tuple [.Name x p, .Name y q] k tp] (.Tuple [a, b] k2 tp2) env = pure (some [x, y]) := by
  have h1 : (y == x) = false := by rw [beq_eq_false_iff_ne] at hne ⊢; exact hne.symm
  unfold swappedStores
  dsimp only
  rw [if_neg (by simp [hb])]
  refine (if_neg (fun h => Bool.false_ne_true (hst.symm.trans h))).trans ?_
  simp only [List.head?_cons, Option.map_some, Option.getD_some, show (Expr.Name x p).pos = p from rfl, List.filterMap_cons, List.filterMap_nil, hx, hy, hl, beq_self_eq_true, Bool.and_self, if_true]
  rw [if_neg (by simp [List.eraseDups_cons, h1]), hf, hc, if_neg Bool.false_ne_true, if_neg Bool.false_ne_true]
theorem swap3 {x y w : Str} {p q r tp tp2 : Pos} {k k2 : Nat} {a b d : Expr} {env : Env} (hx : env.kindOf x = some .local) (hy : env.kindOf y = some .local) (hw : env.kindOf w = some .local) (hb : env.blockKind = .function) (hl : (q.line == p.line) = true) (hl2 : (r.line == p.line) = true) (hne : (x == y) = false) (hne2 : (x == w) = false) (hne3 : (y == w) = false)
    (hst : ([a, b, d].any fun | .Starred .. => true | _ => false) = false) (hf : [a, b, d].all (foldedForSure 8) = false) (hc : [a, b, d].all (constantsAlone 8) = false) : swappedStores [.Tuple [.Name x p, .Name y q, .Name w r] k tp] (.Tuple [a, b, d] k2 tp2) env = pure (some [x, y, w]) := by
  have h1 : (y == x) = false := by rw [beq_eq_false_iff_ne] at hne ⊢; exact hne.symm
  have h2 : (w == x) = false := by rw [beq_eq_false_iff_ne] at hne2 ⊢; exact hne2.symm
  have h3 : (w == y) = false := by rw [beq_eq_false_iff_ne] at hne3 ⊢; exact hne3.symm
  unfold swappedStores
  dsimp only
  rw [if_neg (by simp [hb])]
  refine (if_neg (fun h => Bool.false_ne_true (hst.symm.trans h))).trans ?_
  simp only [List.head?_cons, Option.map_some, Option.getD_some, show (Expr.Name x p).pos = p from rfl, List.filterMap_cons, List.filterMap_nil, hx, hy, hw, hl, hl2, beq_self_eq_true, Bool.and_self, if_true]
  rw [if_neg (by simp [List.eraseDups_cons, h1, h2, h3]), hf, hc, if_neg Bool.false_ne_true, if_neg Bool.false_ne_true]
/-! a call made for its doing -/
noncomputable def sExpr (a : Den V) : SDen := fun ρ st => (a ρ st).map fun p => (.next, ρ, p.2)
theorem x_expr {val : Expr} {pos : Pos} {a : Den V} (ha : ESound c lv sc val a) (hs : ∀ env, swapsWith val none pos.line env = pure false) : XSound c lv sc (.Expr val pos) (sExpr a) := by
  intro A env e s W ρ ρ' st st' fl rm S iv t z q
  refine mapP q fun v st₁ q₁ q => ?_
  cases q
  exact wpAny_Expr_any ((ha A env s W ρ st st₁ v rm S.ok iv q₁).to fun W₁ a₁ s₁ i₁ y₁ z₁ r₁ => ⟨W₁, i₁, t.trans y₁, z.trans z₁, rfl, S.step y₁⟩) (interactive_fn S.ok.kind) (hs env)
end
end Mine
namespace Mine
/-! items -/
noncomputable def big : Int := 1000000
noncomputable def at? (vs : List V) (k : Int) : Option V := if 0 ≤ k ∧ k < 1000000 then vs[k.toNat]? else none
noncomputable def vItem (v i : V) (st : St) : Option V := match v, i with
  | .lst vs, .int k => at? vs k
  | .tup vs, .int k => at? vs k
  | .ref j, .int k => match st[j]? with
    | some (.lst vs) => at? vs k
    | some (.grow vs) => at? vs k
    | some (.dict kvs) => kvs.lookup k
    | _ => none
  | _, _ => none
noncomputable def dItem (a b : Den V) : Den V := fun ρ st => (a ρ st).bind fun p => (b ρ p.2).bind fun q => (vItem p.1 q.1 q.2).map fun v => (v, q.2)
theorem VsRel.get {W : Wd} {vs : List V} {vs' : List Value} (x : VsRel W vs vs') : ∀ {i : Nat} {v : V}, vs[i]? = some v → ∃ v', vs'[i]? = some v' ∧ VRel W v v' := by
  induction vs generalizing vs' with
  | nil => intro i v q; simp at q
  | cons u r ih =>
    cases x with
    | cons a b =>
      intro i v q
      cases i with
      | zero => simp at q; subst q; exact ⟨_, rfl, a⟩
      | succ i => simpa using ih b (by simpa using q)
/-! dicts with int keys -/
theorem isInt_iff (k : Int) (j : Int) (t : Tok) : Value.isInt k (.int j t) = true ↔ k = j := by
  constructor
  · intro h
    have h0 : Value.isInt j (.int j t) = true := by unfold Value.isInt; simp
    exact Value.isInt_inj _ _ _ h h0
  · rintro rfl; unfold Value.isInt; simp
inductive KvRel (W : Wd) : List (Int × V) → List (Int × Value) → Prop
  | nil : KvRel W [] []
  | cons {k : Int} {v : V} {v' : Value} {r : List (Int × V)} {r' : List (Int × Value)} : VRel W v v' → KvRel W r r' → KvRel W ((k, v) :: r) ((k, v') :: r')
theorem KvRel.keys {W : Wd} {a : List (Int × V)} {b : List (Int × Value)} (x : KvRel W a b) : a.map (·.1) = b.map (·.1) := by
  induction x with
  | nil => rfl
  | cons _ _ ih => simp [ih]
theorem KvRel.get {W : Wd} {a : List (Int × V)} {b : List (Int × Value)} (x : KvRel W a b) {k : Int} {v : V} (h : a.lookup k = some v) : ∃ v', valueAt b k = some v' ∧ VRel W v v' := by
  induction x with
  | nil => cases h
  | cons r _ ih =>
    rename_i k' u u' _ _ _
    rw [List.lookup_cons] at h
    unfold valueAt at ih ⊢
    by_cases e : k = k'
    · subst e; simp at h ⊢; subst h; exact r
    · rw [beq_eq_false_iff_ne.mpr e] at h
      rw [List.find?_cons, show decide (k' = k) = false from by simpa using fun z => e z.symm]
      exact ih h
noncomputable def kvPut (kvs : List (Int × V)) (k : Int) (v : V) : List (Int × V) := if kvs.any (fun kv => kv.1 = k) then kvs.map (fun kv => if kv.1 = k then (kv.1, v) else kv) else kvs ++ [(k, v)]
theorem KvRel.mapPut {W : Wd} {a : List (Int × V)} {b : List (Int × Value)} (x : KvRel W a b) (k : Int) {v : V} {v' : Value} (r : VRel W v v') : KvRel W (a.map (fun kv => if kv.1 = k then (kv.1, v) else kv)) (b.map (fun kv => if kv.1 = k then (kv.1, v') else kv)) := by
  induction x with
  | nil => exact .nil
  | cons r' _ ih =>
    simp only [List.map_cons]
    split
    · exact .cons r ih
    · exact .cons r' ih
theorem KvRel.snoc {W : Wd} {a : List (Int × V)} {b : List (Int × Value)} (x : KvRel W a b) (k : Int) {v : V} {v' : Value} (r : VRel W v v') : KvRel W (a ++ [(k, v)]) (b ++ [(k, v')]) := by
  induction x with
  | nil => exact .cons r .nil
  | cons r' _ ih => exact .cons r' ih
theorem KvRel.put {W : Wd} {a : List (Int × V)} {b : List (Int × Value)} (x : KvRel W a b) (k : Int) {v : V} {v' : Value} (r : VRel W v v') : KvRel W (kvPut a k v) (stored b k v') := by
  have hany : (a.any fun kv => kv.1 = k) = (b.any fun kv => kv.1 = k) := by
    clear r
    induction x with
    | nil => rfl
    | cons _ _ ih => simp [ih]
  unfold kvPut stored
  rw [hany]
  split
  · exact x.mapPut k r
  · exact x.snoc k r
theorem KvRel.mono {W W' : Wd} (l : W.Le W') {a : List (Int × V)} {b : List (Int × Value)} (x : KvRel W a b) : KvRel W' a b := by
  induction x with
  | nil => exact .nil
  | cons r _ ih => exact .cons (r.mono l) ih
theorem kvPut_nodup {kvs : List (Int × V)} {k : Int} {v : V} (h : (kvs.map (·.1)).Nodup) : ((kvPut kvs k v).map (·.1)).Nodup := by
  unfold kvPut
  split
  · rw [List.map_map]
    have : (kvs.map ((·.1) ∘ fun kv => if kv.1 = k then (kv.1, v) else kv)) = kvs.map (·.1) := by
      apply List.map_congr_left
      intro a _
      show (if a.1 = k then (a.1, v) else a).1 = a.1
      split <;> rfl
    rw [this]; exact h
  · rename_i hn
    rw [List.map_append, List.nodup_append]
    refine ⟨h, by simp, fun a ha b hb => ?_⟩
    simp at hb
    subst hb
    ((first | refine x1_2 (List.mem_map.mp ha) fun p hp eE90 => ?_ | obtain ⟨p, hp, eE90⟩ := (List.mem_map.mp ha)); subst eE90)
    intro e
    exact hn (List.any_eq_true.mpr ⟨p, hp, by simpa using e⟩)
section
variable {prog : Program} {w : World}
theorem ds_pairs {W : Wd} {kvs : List (Int × V)} {es : List DictEntry} (x : DsRel W kvs es) : ∃ kvs', Pairs (intKind prog w) es kvs' ∧ KvRel W kvs kvs' ∧ ∀ e ∈ es, ∃ k, (intKind prog w).is k e.key = true ∧ e.hash = (intKind prog w).hash k := by
  induction x with
  | nil => exact ⟨[], .nil, .nil, fun e he => by cases he⟩
  | cons hh r _ ih =>
    rename_i k v h t v' fs es _
    ((first | refine x1_3 ih fun kvs' p q z => ?_ | obtain ⟨kvs', p, q, z⟩ := ih); try clear ih)
    have hk : (intKind prog w).is k (.int k t) = true := (isInt_iff k k t).mpr rfl
    refine ⟨(k, v') :: kvs', .cons hk rfl p, .cons r q, fun e he => ?_⟩
    rcases List.mem_cons.mp he with rfl | he
    · exact ⟨k, hk, hh⟩
    · exact z e he
theorem ds_of_pairs {W : Wd} {kvs : List (Int × V)} {kvs' : List (Int × Value)} {es : List DictEntry} (p : Pairs (intKind prog w) es kvs') (q : KvRel W kvs kvs') (z : ∀ e ∈ es, ∃ k, (intKind prog w).is k e.key = true ∧ e.hash = (intKind prog w).hash k) : DsRel W kvs es := by
  induction q generalizing es with
  | nil => cases p; exact .nil
  | cons r _ ih =>
    rename_i k v v' _ _ _
    cases p with
    | cons hk hv p =>
      rename_i e es
      ((first | refine x1_2 (z e List.mem_cons_self) fun k' hk' hh => ?_ | obtain ⟨k', hk', hh⟩ := (z e List.mem_cons_self)))
      ((first | refine x1_2 e fun hash key val => ?_ | obtain ⟨hash, key, val⟩ := e); try clear e)
      dsimp only at hk hv hk' hh
      ((first | refine x1_1 (Value.isInt_shape hk) fun t eE91 => ?_ | obtain ⟨t, eE91⟩ := (Value.isInt_shape hk)); subst eE91)
      have := (isInt_iff k' k t).mp hk'
      subst this
      subst hv
      exact .cons hh r (ih p fun e he => z e (List.mem_cons_of_mem _ he))
theorem mrel_dict {W : Wd} {h : Heap} {a : Addr} {o : Obj} {kvs : List (Int × V)} (ho : h.get? a = some o) (m : MRel W (.dict kvs) o) : ∃ kvs', h.DictOf (intKind prog w) a kvs' ∧ KvRel W kvs kvs' := by
  cases m with
  | dict nd ex hd ds =>
    rename_i es n
    ((first | refine x1_3 (ds_pairs (prog := prog) (w := w) ds) fun kvs' p q z => ?_ | obtain ⟨kvs', p, q, z⟩ := (ds_pairs (prog := prog) (w := w) ds)))
    exact ⟨kvs', ⟨o, es, n, ho, ex, hd, fun e he => z e (by simpa using he), p, q.keys ▸ nd⟩, q⟩
theorem dict_mrel {W : Wd} {h : Heap} {a : Addr} {kvs : List (Int × V)} {kvs' : List (Int × Value)} (d : h.DictOf (intKind prog w) a kvs') (q : KvRel W kvs kvs') : ∃ o, h.get? a = some o ∧ MRel W (.dict kvs) o := by
  ((first | refine x3_6 d fun o es n ho ex hd hz p nd => ?_ | obtain ⟨o, es, n, ho, ex, hd, hz, p, nd⟩ := d); try clear d)
  exact ⟨o, ho, .dict (q.keys.symm ▸ nd) ex hd (ds_of_pairs p q fun e he => hz e (by simpa using he))⟩
end
section
variable {c : Cx} {lv : Nat} {sc : Scope}
theorem item_any {A : Around} {E : Value → Shared → Prop} {s : Shared} {W : Wd} {st : St} {u i v : V} {u' i' : Value} {Q : Value → Shared → Prop} (iv : Inv c.h₀ W st s.heap) (ru : VRel W u u') (ri : VRel W i i') (q : vItem u i st = some v)
    (h : ∀ v' tk, VRel W v v' → Q v' { s with toks := tk }) : ∃ T id, s.TypeIs u' T ∧ typeLookup (.type T) "__getitem__" = pure (some (.builtin id)) ∧ wpAny c.M A (getItem u' i') Q E s := by
  have lst : ∀ (a : Addr) (o : Obj) (items : Array Value) (n : Nat) (vs : List V) (k : Int) (t : Tok), s.heap.get? a = some o → o.cls = .type "list" → o.data = .seq items n → VsRel W vs items.toList → at? vs k = some v →
      ∃ T id, s.TypeIs (.ref a) T ∧ typeLookup (.type T) "__getitem__" = pure (some (.builtin id)) ∧ wpAny c.M A (getItem (.ref a) (.int k t)) Q E s := fun a o items n vs k t ho hc hd rs hk => by
    unfold at? at hk
    split at hk
    · rename_i hb
      ((first | refine x1_2 (rs.get hk) fun v' hv rv => ?_ | obtain ⟨v', hv, rv⟩ := (rs.get hk)))
      exact ⟨"list", _, ⟨o, ho, hc⟩, slot_list_getitem.lookup, wpAny_getItem_list ⟨o, ho, hc, n, hd⟩ hb.1 (by lia) (by simpa using hv) (h v' s.toks rv)⟩
    · cases hk
  refine hide2 (P := fun u' i' => _) u' i' fun G kG => ?_
  unfold vItem at q
  split at q
  · cases ru with
    | lst f cd rs => cases ri; exact kG _ _ (lst _ _ _ _ _ _ _ (iv.froz _ _ f) cd.cls cd.data rs q)
  · cases ru with
    | tup f cd rs =>
      cases ri
      rename_i vs k a o items n t
      unfold at? at q
      split at q
      · rename_i hb
        ((first | refine x1_2 (rs.get q) fun v' hv rv => ?_ | obtain ⟨v', hv, rv⟩ := (rs.get q)))
        have hlt : k.toNat < items.toList.length := (List.getElem?_eq_some_iff.mp hv).1
        rw [Array.length_toList] at hlt
        exact kG _ _ ⟨"tuple", _, ⟨o, iv.froz _ _ f, cd.cls⟩, slot_tuple_getitem.lookup, PyProof.Rows.getItem_tuple ⟨o, iv.froz _ _ f, cd.cls, n, cd.data⟩ (by lia) (by lia) (seqIndex_of hb.1 (by lia)) (by simpa using hv) (h v' s.toks rv)⟩
      · cases q
  · rename_i j k
    cases ru with
    | ref hφ =>
      rename_i a
      split at q
      · rename_i vs hs
        ((first | refine x1_2 (iv.live _ _ _ hφ hs) fun o ho m => ?_ | obtain ⟨o, ho, m⟩ := (iv.live _ _ _ hφ hs)))
        cases m with
        | lst hc hd rs => cases ri; exact kG _ _ (lst _ _ _ _ _ _ _ ho hc hd rs q)
      · rename_i vs hs
        ((first | refine x1_2 (iv.live _ _ _ hφ hs) fun o ho m => ?_ | obtain ⟨o, ho, m⟩ := (iv.live _ _ _ hφ hs)))
        cases m with
        | grow cd rs => cases ri; exact kG _ _ (lst _ _ _ _ _ _ _ ho cd.cls cd.data rs q)
      · rename_i kvs hs
        ((first | refine x1_2 (iv.live _ _ _ hφ hs) fun o ho m => ?_ | obtain ⟨o, ho, m⟩ := (iv.live _ _ _ hφ hs)))
        ((first | refine x1_2 (mrel_dict (prog := c.prog) (w := c.w) ho m) fun kvs' d kr => ?_ | obtain ⟨kvs', d, kr⟩ := (mrel_dict (prog := c.prog) (w := c.w) ho m)))
        ((first | refine x1_2 (kr.get q) fun v' hv rv => ?_ | obtain ⟨v', hv, rv⟩ := (kr.get q)))
        cases ri
        rename_i t
        refine kG _ _ ⟨"dict", _, d.mapOf.typeIs, slot_dict_getitem.lookup, wpAny_getItem_of (knd := intKind c.prog c.w) (k := k) ((isInt_iff k k t).mpr rfl) d.mapOf hv (h v' _ rv)⟩
      · cases q
  · cases q
theorem e_item {value slice : Expr} {pos : Pos} {a b : Den V} (ha : ESound c lv sc value a) (hb : ESound c lv sc slice b) (hs : ∀ o i, subscripted slice false o i = operate [o, i] (getItem o i)) : ESound c lv sc (.Subscript value slice pos) (dItem a b) := by
  intro A env s W ρ st st' v rm eo iv q
  refine hide fun G kG => ?_
  refine bindP q fun u st₁ q₁ q => ?_
  refine bindP q fun i st₂ q₂ q => ?_
  refine mapO q fun v' q₃ q => ?_
  cases q
  refine kG ?_
  refine Subscript_ ((ha A env s W ρ st st₁ u rm eo iv q₁).to fun W₁ u' s₁ i₁ y₁ z₁ r₁ => ?_)
  refine (hb A env s₁ W₁ ρ st₁ st₂ i rm (eo.step y₁) i₁ q₂).to fun W₂ i' s₂ i₂ y₂ z₂ r₂ => ?_
  obtain ⟨T, id, hT, hl, hg⟩ := item_any (A := A) (E := fun _ _ => False) i₂ (r₁.mono y₂.le) r₂ q₃ (Q := fun a s' => ∃ W', End1 c.h₀ W s st₂ (VRel W' v a) s' W')
    fun v' tk rv => ⟨W₂, i₂, y₁.trans y₂, ⟨z₂.gens.trans z₁.gens, z₂.os.trans z₁.os⟩, rv⟩
  exact tail_any hT hl hg (hs u' i')
/-! slices of frozen lists -/
noncomputable def vPick (vs : List V) (lo hi st : Option Int) : List V := (sliceRange (sliceBounds lo hi st vs.length).1 (sliceBounds lo hi st vs.length).2.1 (sliceBounds lo hi st vs.length).2.2).filterMap (vs[·]?)
theorem VsRel.pickL {W : Wd} {vs : List V} {vs' : List Value} (x : VsRel W vs vs') (is : List Nat) : VsRel W (is.filterMap (vs[·]?)) (is.filterMap (vs'[·]?)) := by
  induction is with
  | nil => exact .nil
  | cons i r ih =>
    rw [List.filterMap_cons, List.filterMap_cons]
    cases e : vs[i]? with
    | none =>
      have : vs'[i]? = none := by rw [List.getElem?_eq_none_iff] at e ⊢; rw [← x.length]; exact e
      rw [this]; exact ih
    | some v =>
      ((first | refine x1_2 (x.get e) fun v' e' rv => ?_ | obtain ⟨v', e', rv⟩ := (x.get e)))
      rw [e']; exact .cons rv ih
theorem VsRel.pick {W : Wd} {vs : List V} {items : Array Value} (x : VsRel W vs items.toList) (lo hi st : Option Int) : VsRel W (vPick vs lo hi st) (slicePick items lo hi st).toList := by
  unfold vPick slicePick
  have hl : vs.length = items.size := x.length.trans Array.length_toList
  rw [hl]
  have := x.pickL (sliceRange (sliceBounds lo hi st items.size).1 (sliceBounds lo hi st items.size).2.1 (sliceBounds lo hi st items.size).2.2)
  simpa using this
noncomputable def PSound (c : Cx) (lv : Nat) (sc : Scope) (e : Option Expr) (f : Den (Option Int)) : Prop :=
  ∀ (A : Around) (env : Env) (s : Shared) (W : Wd) (ρ : Rho) (st st' : St) (v : Option Int), Room A lv → EnvOk sc env W ρ s.heap → Inv c.h₀ W st s.heap → f ρ st = some (v, st') →
    Does c.M c.h₀ A (evalPart e env) W s st' (fun _ v' => IsPart v' v)
noncomputable def pNone : Den (Option Int) := fun _ st => some (none, st)
noncomputable def pSome (a : Den V) : Den (Option Int) := fun ρ st => (a ρ st).bind fun p => match p.1 with | .int i => some (some i, p.2) | _ => none
theorem p_none : PSound c lv sc none pNone := by
  intro A env s W ρ st st' v rm eo iv q
  cases q
  exact wpAny_pure ⟨W, iv, Step.refl _ _, Same.refl _, .none⟩
theorem p_some {e : Expr} {a : Den V} (ha : ESound c lv sc e a) : PSound c lv sc (some e) (pSome a) := by
  intro A env s W ρ st st' v rm eo iv q
  refine bindP q fun u st₁ q₁ q => ?_
  rw [evalPart_some]
  refine (ha A env s W ρ st st₁ u rm eo iv q₁).to fun W₁ u' s₁ i₁ y₁ z₁ r₁ => ?_
  cases r₁ <;> first | (simp at q; done) | skip
  simp at q
  ((first | refine x0_2 q fun eE92 eE93 => ?_ | obtain ⟨eE92, eE93⟩ := q); try clear q; subst eE92; subst eE93)
  exact ⟨W₁, i₁, y₁, z₁, .int _ _⟩
noncomputable def dSlice (a : Den V) (l u t : Den (Option Int)) : Den V := fun ρ st => (a ρ st).bind fun p => match p.1 with
  | .lst vs => (l ρ p.2).bind fun q => (u ρ q.2).bind fun r => (t ρ r.2).bind fun w => if vs.length ≤ 1000000 ∧ w.1 ≠ some 0 then some (.lst (vPick vs q.1 r.1 w.1), w.2) else none
  | _ => none
theorem e_slice {value : Expr} {lower upper step : Option Expr} {p pos : Pos} {a : Den V} {l u t : Den (Option Int)} (ha : ESound c lv sc value a) (hl : PSound c lv sc lower l) (hu : PSound c lv sc upper u) (ht : PSound c lv sc step t)
    (hs : ∀ o i, ∃ ops, subscripted (.Slice lower upper step p) false o i = operate ops (getItem o i)) : ESound c lv sc (.Subscript value (.Slice lower upper step p) pos) (dSlice a l u t) := by
  intro A env s W ρ st st' v rm eo iv q
  refine hide fun G kG => ?_
  refine bindP q fun x st₁ q₁ q => ?_
  dsimp only at q
  split at q
  rotate_left
  · cases q
  rename_i vs
  refine bindP q fun lo st₂ q₂ q => ?_
  refine bindP q fun hi st₃ q₃ q => ?_
  refine bindP q fun sp st₄ q₄ q => ?_
  split at q
  rotate_left
  · cases q
  rename_i hc
  cases q
  refine kG ?_
  refine Subscript_ ((ha A env s W ρ st st₁ _ rm eo iv q₁).to fun W₁ x' s₁ i₁ y₁ z₁ r₁ => ?_)
  refine wpAny_Slice ((hl A env s₁ W₁ ρ st₁ st₂ lo rm (eo.step y₁) i₁ q₂).to fun W₂ l' s₂ i₂ y₂ z₂ r₂ => ?_)
  refine (hu A env s₂ W₂ ρ st₂ st₃ hi rm ((eo.step y₁).step y₂) i₂ q₃).to fun W₃ u' s₃ i₃ y₃ z₃ r₃ => ?_
  refine (ht A env s₃ W₃ ρ st₃ st₄ sp rm (((eo.step y₁).step y₂).step y₃) i₃ q₄).to fun W₄ t' s₄ i₄ y₄ z₄ r₄ => ?_
  cases ((r₁.mono y₂.le).mono y₃.le).mono y₄.le with
  | lst f cd rs =>
    rename_i a o items n
    ((first | refine x0_2 (hs (.ref a) (.ref s₄.heap.objs.size)) fun ops hops => ?_ | refine x1_1 (hs (.ref a) (.ref s₄.heap.objs.size)) fun ops hops => ?_ | obtain ⟨ops, hops⟩ := (hs (.ref a) (.ref s₄.heap.objs.size))))
    have ho := i₄.froz _ _ f
    have hl0 : (s₄.heap.push { cls := .type "slice", data := .fields #[l', u', t'] }).IsList a items := ⟨o, Heap.get?_push_of_some _ ho, cd.cls, n, cd.data⟩
    have hsz : vs.length = items.size := rs.length.trans Array.length_toList
    refine tail_any (s := { s₄ with heap := s₄.heap.push { cls := .type "slice", data := .fields #[l', u', t'] } }) hl0.typeIs list_getitem_lookup (wpAny_getItem_list_slice hl0 (Heap.IsSliceOf.new ..) r₂ r₃ r₄ hc.2 ?_ (by rw [← hsz]; exact lineOf hc.1)) hops
    have kp : ∀ (b : Addr) (p : Obj), s₄.heap.get? b = some p → (s₄.heap.push { cls := .type "slice", data := .fields #[l', u', t'] }).get? b = some p := fun b p q => Heap.get?_push_of_some _ q
    ((first | refine x0_2 ((i₄.grow kp).push { cls := .type "list", data := .seq (slicePick items lo hi sp) } rfl) fun i₅ y₅ => ?_ | refine x1_1 ((i₄.grow kp).push { cls := .type "list", data := .seq (slicePick items lo hi sp) } rfl) fun i₅ y₅ => ?_ | obtain ⟨i₅, y₅⟩ := ((i₄.grow kp).push { cls := .type "list", data := .seq (slicePick items lo hi sp) } rfl)))
    exact ⟨_, i₅, ((((y₁.trans y₂).trans y₃).trans y₄).trans (Step.grow (W := W₄) kp)).trans y₅, ⟨z₄.gens.trans (z₃.gens.trans (z₂.gens.trans z₁.gens)), z₄.os.trans (z₃.os.trans (z₂.os.trans z₁.os))⟩, .lst (Wd.freeze_self _ _ _) rfl ((rs.pick lo hi sp).mono y₅.le)⟩
/-! o[i] = e -/
noncomputable def putItem (i : Nat) (k : Int) (v : V) (st : St) : Option St := match st[i]? with
  | some (.lst vs) => if 0 ≤ k ∧ k < vs.length ∧ k < 1000000 then some (st.set i (.lst (vs.set k.toNat v))) else none
  | some (.dict kvs) => if kvs.length ≤ 1000000 then some (st.set i (.dict (kvPut kvs k v))) else none
  | _ => none
noncomputable def sPut (o i a : Den V) : SDen := fun ρ st => (a ρ st).bind fun p => (o ρ p.2).bind fun q => (i ρ q.2).bind fun r => match q.1, r.1 with
  | .ref j, .int k => (putItem j k p.1 r.2).map fun st' => (.next, ρ, st')
  | _, _ => none
theorem Inv.setAt {h₀ : Heap} {W : Wd} {st : St} {h h' : Heap} (iv : Inv h₀ W st h) {i : Nat} {dx : Addr} {m m' : MO} {o : Obj} (hi : W.φ[i]? = some dx) (hs : st[i]? = some m) (nd : m ≠ .dead) (b : Heap.SameBut dx h h') (ho : h'.get? dx = some o) (r : MRel W m' o) :
    Inv h₀ W (st.set i m') h' ∧ Step W h W h' := by
  have mem : dx ∈ W.φ := List.mem_of_getElem? hi
  have fz0 := iv.free i dx m hi hs nd
  have ne : ∀ (b : Addr) (p : Obj), W.fz b = some p → b ≠ dx := fun b p q z => by rw [z, fz0] at q; cases q
  refine ⟨⟨iv.base, fun a p q => (b.2 a (ne a p q)).trans (iv.froz a p q), by rw [iv.len, List.length_set], iv.nodup, fun j a mm hj hm nd' => ?_, fun j a mm hj hm => ?_⟩,
    ⟨fun a p q n => (b.2 a fun z => n (by rw [z]; exact mem)).trans q, fun a p q => ?_, fun _ _ q => q, fun _ _ _ _ => rfl, [], by simp, by simp⟩⟩
  · by_cases e : j = i
    · subst e; rw [hi] at hj; cases hj; exact fz0
    · rw [List.getElem?_set_ne (Ne.symm e)] at hm; exact iv.free j a mm hj hm nd'
  · by_cases e : j = i
    · subst e
      rw [hi] at hj; cases hj
      rw [List.getElem?_set_self (List.getElem?_eq_some_iff.mp hs).1] at hm
      cases hm
      exact ⟨o, ho, r⟩
    · rw [List.getElem?_set_ne (Ne.symm e)] at hm
      ((first | refine x1_2 (iv.live j a mm hj hm) fun p q t => ?_ | obtain ⟨p, q, t⟩ := (iv.live j a mm hj hm)))
      have : a ≠ dx := fun z => by
        subst z
        exact e (nodup_idx iv.nodup hj hi)
      exact ⟨p, (b.2 a this).trans q, t⟩
  · by_cases e : a = dx
    · subst e; exact ⟨o, ho⟩
    · exact ⟨p, (b.2 a e).trans q⟩
theorem VsRel.set {W : Wd} {vs : List V} {vs' : List Value} (x : VsRel W vs vs') {v : V} {v' : Value} (r : VRel W v v') : ∀ i, VsRel W (vs.set i v) (vs'.set i v') := by
  induction vs generalizing vs' with
  | nil => intro i; cases x; exact .nil
  | cons u rest ih =>
    intro i
    cases x with
    | cons a b => cases i with
      | zero => exact .cons r b
      | succ i => exact .cons a (ih b i)
theorem put_item {A : Around} {E : Value → Shared → Prop} {s : Shared} {W : Wd} {st st' : St} {j : Nat} {k : Int} {v : V} {a : Addr} {t : Tok} {v' : Value} {Q : Unit → Shared → Prop} (iv : Inv c.h₀ W st s.heap) (hφ : W.φ[j]? = some a) (rv : VRel W v v') (q : putItem j k v st = some st')
    (h : ∀ h' tk, Inv c.h₀ W st' h' → Step W s.heap W h' → Q () { s with heap := h', toks := tk }) : wpAny c.M A (setItem (.ref a) (.int k t) v') Q E s := by
  unfold putItem at q
  split at q
  · rename_i vs hs
    split at q
    · rename_i hk
      cases q
      ((first | refine x1_2 (iv.live _ _ _ hφ hs) fun o ho m => ?_ | obtain ⟨o, ho, m⟩ := (iv.live _ _ _ hφ hs)))
      cases m with
      | lst hc hd rs =>
        rename_i items n
        have hsz : vs.length = items.size := rs.length.trans Array.length_toList
        refine wpAny_setItem_list ⟨o, ho, hc, n, hd⟩ hk.1 (by lia) (by lia) fun h' hl hsb => ?_
        ((obtain ⟨o', ho', hc', n', hd'⟩ := hl); try clear hl)
        ((first | refine x0_2 (iv.setAt (m' := .lst (vs.set k.toNat v)) hφ hs (by intro z; cases z) hsb ho' (.lst hc' hd' (by simpa using rs.set rv k.toNat))) fun i₂ y₂ => ?_ | obtain ⟨i₂, y₂⟩ := (iv.setAt (m' := .lst (vs.set k.toNat v)) hφ hs (by intro z; cases z) hsb ho' (.lst hc' hd' (by simpa using rs.set rv k.toNat)))))
        exact h h' s.toks i₂ y₂
    · cases q
  · rename_i kvs hs
    split at q
    · rename_i hn
      cases q
      ((first | refine x1_2 (iv.live _ _ _ hφ hs) fun o ho m => ?_ | obtain ⟨o, ho, m⟩ := (iv.live _ _ _ hφ hs)))
      ((first | refine x1_2 (mrel_dict (prog := c.prog) (w := c.w) ho m) fun kvs' d kr => ?_ | obtain ⟨kvs', d, kr⟩ := (mrel_dict (prog := c.prog) (w := c.w) ho m)))
      refine wpAny_setItem_pairs (knd := intKind c.prog c.w) (k := k) ((isInt_iff k k t).mpr rfl) d (fun h' d' hsb => ?_) (by
        have := congrArg List.length kr.keys; rw [List.length_map, List.length_map] at this; rw [← this]; exact lineOf hn)
      ((first | refine x1_2 (dict_mrel d' (kr.put k rv)) fun o' ho' m' => ?_ | obtain ⟨o', ho', m'⟩ := (dict_mrel d' (kr.put k rv))))
      ((first | refine x0_2 (iv.setAt (m' := .dict (kvPut kvs k v)) hφ hs (by intro z; cases z) hsb ho' m') fun i₂ y₂ => ?_ | obtain ⟨i₂, y₂⟩ := (iv.setAt (m' := .dict (kvPut kvs k v)) hφ hs (by intro z; cases z) hsb ho' m')))
      exact h h' _ i₂ y₂
    · cases q
  · cases q
theorem x_put {o i val : Expr} {pos' pos : Pos} {a b d : Den V} (ha : ESound c lv sc val a) (hb : ESound c lv sc o b) (hd : ESound c lv sc i d) (hs : ∀ env, swapsWith val (some (.Subscript o i pos')) pos.line env = pure false) : XSound c lv sc (.Assign [.Subscript o i pos'] val pos) (sPut b d a) := by
  intro A env e s W ρ ρ' st st' fl rm S iv t z q
  refine hide fun G kG => ?_
  refine bindP q fun v st₁ q₁ q => ?_
  refine bindP q fun x st₂ q₂ q => ?_
  refine bindP q fun y st₃ q₃ q => ?_
  dsimp only at q
  split at q
  rotate_left
  · cases q
  rename_i j k
  refine mapO q fun st₄ q₄ q => ?_
  cases q
  refine kG ?_
  refine wpAny_Assign_Subscript ((ha A env s W ρ st st₁ v rm S.ok iv q₁).to fun W₁ v' s₁ i₁ y₁ z₁ r₁ => ?_) (hs env)
  refine (hb A env s₁ W₁ ρ st₁ st₂ _ rm (S.ok.step y₁) i₁ q₂).to fun W₂ x' s₂ i₂ y₂ z₂ r₂ => ?_
  refine (hd A env s₂ W₂ ρ st₂ st₃ _ rm ((S.ok.step y₁).step y₂) i₂ q₃).to fun W₃ y' s₃ i₃ y₃ z₃ r₃ => ?_
  cases r₂.mono y₃.le with
  | ref hφ =>
    cases r₃
    refine put_item i₃ hφ ((r₁.mono y₂.le).mono y₃.le) q₄ fun h' tk i₄ y₄ => ?_
    exact ⟨W₃, i₄, (((t.trans y₁).trans y₂).trans y₃).trans y₄, ⟨z₃.gens.trans (z₂.gens.trans (z₁.gens.trans z.gens)), z₃.os.trans (z₂.os.trans (z₁.os.trans z.os))⟩, rfl, (((S.step y₁).step y₂).step y₃).step y₄⟩
/-! {} and {k: v, ..} -/
noncomputable def dDict0 : Den V := fun _ st => some (.ref st.length, st ++ [.dict []])
theorem alloc_ref {W : Wd} {st : St} {h : Heap} {h₀ : Heap} (iv : Inv h₀ W st h) : (W.add h.objs.size).φ[st.length]? = some h.objs.size := by
  show (W.φ ++ [h.objs.size])[st.length]? = _
  rw [← iv.len, List.getElem?_append_right (Nat.le_refl _)]; simp
theorem e_dict0 {pos : Pos} : ESound c lv sc (.Dict [] [] pos) dDict0 := by
  intro A env s W ρ st st' v rm eo iv q
  cases q
  refine wpAny_Dict_empty ?_
  ((first | refine x0_2 (iv.alloc { cls := .type "dict", data := .dict #[] } (.dict []) rfl (.dict List.nodup_nil ⟨rfl, rfl, rfl⟩ rfl .nil)) fun a b => ?_ | obtain ⟨a, b⟩ := (iv.alloc { cls := .type "dict", data := .dict #[] } (.dict []) rfl (.dict List.nodup_nil ⟨rfl, rfl, rfl⟩ rfl .nil))))
  exact ⟨_, a, b, ⟨rfl, rfl⟩, .ref (alloc_ref iv)⟩
end
end Mine
namespace Mine
/-! values as data, compared -/
mutual
noncomputable def vData : V → Option PyData
  | .none => some .none
  | .bool b => some (.bool b)
  | .int i => some (.int i)
  | .str x => some (.str x)
  | .lst vs => (vDatas vs).map .list
  | .tup vs => (vDatas vs).map .tuple
  | _ => none
noncomputable def vDatas : List V → Option (List PyData)
  | [] => some []
  | v :: r => (vData v).bind fun d => (vDatas r).map (d :: ·)
end
mutual
theorem reads_of {h₀ h : Heap} {st : St} {W : Wd} (iv : Inv h₀ W st h) : ∀ {v : V} {v' : Value} {d : PyData}, VRel W v v' → vData v = some d → ∃ as, Reads h v' d as
  | _, _, d, .none, q => by rw [vData] at q; cases q; exact ⟨_, .none⟩
  | _, _, d, .bool b, q => by rw [vData] at q; cases q; exact ⟨_, .bool b⟩
  | _, _, d, .int i t, q => by rw [vData] at q; cases q; exact ⟨_, .int i t⟩
  | _, _, d, .str x t, q => by rw [vData] at q; cases q; exact ⟨_, .str x t⟩
  | _, _, d, .lst f cd rs, q => by
    rw [vData] at q
    refine mapO q fun ds q' eR => ?_; subst eR
    ((first | refine x1_1 (reads_all iv rs q') fun as r => ?_ | obtain ⟨as, r⟩ := (reads_all iv rs q')))
    exact ⟨_, .list (iv.froz _ _ f) cd.cls cd.data r⟩
  | _, _, d, .tup f cd rs, q => by
    rw [vData] at q
    refine mapO q fun ds q' eR => ?_; subst eR
    ((first | refine x1_1 (reads_all iv rs q') fun as r => ?_ | obtain ⟨as, r⟩ := (reads_all iv rs q')))
    exact ⟨_, .tuple (iv.froz _ _ f) cd.cls cd.data r⟩
  | _, _, d, .obj .., q => by rw [vData] at q <;> first | cases q | (intros; intro z; cases z)
  | _, _, d, .self .., q => by rw [vData] at q <;> first | cases q | (intros; intro z; cases z)
  | _, _, d, .ref .., q => by rw [vData] at q <;> first | cases q | (intros; intro z; cases z)
  | _, _, d, .rng .., q => by rw [vData] at q <;> first | cases q | (intros; intro z; cases z)
theorem reads_all {h₀ h : Heap} {st : St} {W : Wd} (iv : Inv h₀ W st h) : ∀ {v : List V} {v' : List Value} {d : List PyData}, VsRel W v v' → vDatas v = some d → ∃ as, ReadsAll h v' d as
  | _, _, d, .nil, q => by rw [vDatas] at q; cases q; exact ⟨_, .nil⟩
  | _, _, d, .cons a b, q => by
    rw [vDatas] at q
    refine bindO q fun d q₁ q => ?_
    refine mapO q fun ds q₂ eR => ?_; subst eR
    ((first | refine x1_1 (reads_of iv a q₁) fun as r => ?_ | obtain ⟨as, r⟩ := (reads_of iv a q₁)))
    ((first | refine x1_1 (reads_all iv b q₂) fun bs r' => ?_ | obtain ⟨bs, r'⟩ := (reads_all iv b q₂)))
    exact ⟨_, .cons r r'⟩
end
noncomputable def eqB (a b : V) : Option Bool := (vData a).bind fun x => (vData b).bind fun y => if SeqAt.shaped x && SeqAt.shaped y then some (PyData.eqv x y) else none
noncomputable def oEq (a b : V) : Option V := (eqB a b).map .bool
noncomputable def oNe (a b : V) : Option V := (eqB a b).map fun e => .bool (!e)
section
variable {c : Cx} {lv : Nat} {sc : Scope}
theorem ok_eq : BinOk c (compareOp .Eq) oEq := by
  intro A s W st a b r a' b' rm iv ra rb q
  refine mapO q fun e q' eR => ?_; subst eR
  refine bindO q' fun x q₁ q => ?_
  refine bindO q fun y q₂ q => ?_
  split at q
  · rename_i hs
    cases q
    rw [Bool.and_eq_true] at hs
    ((first | refine x1_1 (reads_of iv ra q₁) fun as r1 => ?_ | obtain ⟨as, r1⟩ := (reads_of iv ra q₁)))
    ((first | refine x1_1 (reads_of iv rb q₂) fun bs r2 => ?_ | obtain ⟨bs, r2⟩ := (reads_of iv rb q₂)))
    exact SeqAt.compareEq_shaped r1 r2 hs.1 hs.2 (by have := rm.units; show A.units + 64 < 9900; lia) (endHere0 iv (.bool _))
  · cases q
theorem ok_ne : BinOk c (compareOp .NotEq) oNe := by
  intro A s W st a b r a' b' rm iv ra rb q
  refine mapO q fun e q' eR => ?_; subst eR
  refine bindO q' fun x q₁ q => ?_
  refine bindO q fun y q₂ q => ?_
  split at q
  · rename_i hs
    cases q
    rw [Bool.and_eq_true] at hs
    ((first | refine x1_1 (reads_of iv ra q₁) fun as r1 => ?_ | obtain ⟨as, r1⟩ := (reads_of iv ra q₁)))
    ((first | refine x1_1 (reads_of iv rb q₂) fun bs r2 => ?_ | obtain ⟨bs, r2⟩ := (reads_of iv rb q₂)))
    exact SeqAt.compareNe_shaped r1 r2 hs.1 hs.2 (by have := rm.units; show A.units + 64 < 9900; lia) (endHere0 iv (.bool _))
  · cases q
/-! two dicts -/
noncomputable def dictHits (kb : List (Int × V)) : List (Int × V) → Option Bool
  | [] => some true
  | (k, v) :: r => match kb.lookup k with
    | none => some false
    | some u => (eqB v u).bind fun e => (dictHits kb r).map (e && ·)
noncomputable def neDict (a b : V) (st : St) : Option Bool := match a, b with
  | .ref i, .ref j => match st[i]?, st[j]? with
    | some (.dict ka), some (.dict kb) => (dictHits kb ka).map fun r => !(ka.length == kb.length && r)
    | _, _ => none
  | _, _ => none
noncomputable def tNeDict (a b : Den V) : Den Bool := fun ρ st => (a ρ st).bind fun p => (b ρ p.2).bind fun q => (neDict p.1 q.1 q.2).map fun e => (e, q.2)
theorem eqAt_of {A : Around} {s : Shared} {W : Wd} {st : St} {v u : V} {v' u' : Value} {e : Bool} (rm : Room A 0) (iv : Inv c.h₀ W st s.heap) (rv : VRel W v v') (ru : VRel W u u') (q : eqB v u = some e) : SeqAt.EqAt A.in1 s v' u' e := by
  refine bindO q fun x q₁ q => ?_
  refine bindO q fun y q₂ q => ?_
  split at q
  · rename_i hs
    cases q
    rw [Bool.and_eq_true] at hs
    ((first | refine x1_1 (reads_of iv rv q₁) fun as r1 => ?_ | obtain ⟨as, r1⟩ := (reads_of iv rv q₁)))
    ((first | refine x1_1 (reads_of iv ru q₂) fun bs r2 => ?_ | obtain ⟨bs, r2⟩ := (reads_of iv ru q₂)))
    exact keq_at r1 r2 hs.1 hs.2 (by have := rm.units; show A.units + 1 + 64 < 9900; lia)
  · cases q
theorem KvRel.get_none {W : Wd} {a : List (Int × V)} {b : List (Int × Value)} (x : KvRel W a b) {k : Int} (h : a.lookup k = none) : valueAt b k = none := by
  induction x with
  | nil => rfl
  | cons r _ ih =>
    rename_i k' u u' _ _ _
    rw [List.lookup_cons] at h
    unfold valueAt at ih ⊢
    by_cases e : k = k'
    · subst e; simp at h
    · rw [beq_eq_false_iff_ne.mpr e] at h
      rw [List.find?_cons, show decide (k' = k) = false from by simpa using fun z => e z.symm]
      exact ih h
theorem hits_of {A : Around} {s : Shared} {W : Wd} {st : St} (rm : Room A 0) (iv : Inv c.h₀ W st s.heap) {kb : List (Int × V)} {kb' : List (Int × Value)} (xb : KvRel W kb kb') {ka : List (Int × V)} {ka' : List (Int × Value)} (xa : KvRel W ka ka') : ∀ {r : Bool}, dictHits kb ka = some r → KeqHits A.in1 s kb' ka' r := by
  induction xa with
  | nil => intro r q; cases q; exact .nil
  | cons rv _ ih =>
    intro r q
    rename_i k v v' _ _ _
    unfold dictHits at q
    split at q
    · rename_i hn; cases q; exact .miss (xb.get_none hn)
    · rename_i u hu
      refine bindO q fun e q₁ q => ?_
      refine mapO q fun b q₂ eR => ?_; subst eR
      ((first | refine x1_2 (xb.get hu) fun u' hu' ru => ?_ | obtain ⟨u', hu', ru⟩ := (xb.get hu)))
      exact .hit hu' (eqAt_of rm iv rv ru q₁) (ih q₂)
theorem not_sys {W : Wd} {st : St} {h : Heap} (iv : Inv c.h₀ W st h) {i : Nat} {a : Addr} {m : MO} (hφ : W.φ[i]? = some a) (hs : st[i]? = some m) (nd : m ≠ .dead) : (a == sysModules) = false := by
  rw [beq_eq_false_iff_ne]
  intro e
  ((first | refine x1_1 c.sys fun o q => ?_ | obtain ⟨o, q⟩ := c.sys))
  have := iv.base _ _ q
  rw [← e, iv.free i a m hφ hs nd] at this
  cases this
theorem neDict_some {x y : V} {st : St} {e : Bool} (q : neDict x y st = some e) : ∃ i j ka kb r, x = .ref i ∧ y = .ref j ∧ st[i]? = some (.dict ka) ∧ st[j]? = some (.dict kb) ∧ dictHits kb ka = some r ∧ e = !(ka.length == kb.length && r) := by
  unfold neDict at q
  split at q
  · split at q
    · rename_i ha hb
      exact mapO q fun r q₅ eR => ⟨_, _, _, _, r, rfl, rfl, ha, hb, q₅, eR.symm⟩
    · cases q
  · cases q
theorem t_neDict {l r : Expr} {pos : Pos} {a b : Den V} (ha : ESound c lv sc l a) (hb : ESound c lv sc r b) (hm : behindInMarks .NotEq r = false := by with_unfolding_all rfl) : TSound c lv sc (.Compare l [.NotEq] [r] pos) (tNeDict a b) := by
  intro A env s W ρ st st' v rm eo iv q
  refine bindP q fun x st₁ q₁ q => ?_
  refine bindP q fun y st₂ q₂ q => ?_
  refine mapO q fun e q₃ q => ?_
  cases q
  refine wpAny_isTrue_Compare1 ((ha A env s W ρ st st₁ x rm eo iv q₁).to fun W₁ x' s₁ i₁ y₁ z₁ r₁ => ?_) hm
  refine (hb A env s₁ W₁ ρ st₁ st₂ y rm (eo.step y₁) i₁ q₂).to fun W₂ y' s₂ i₂ y₂ z₂ r₂ => ?_
  dsimp only at q₃
  refine x5_6 (neDict_some q₃) fun i j ka kb r ex ey ha' hb' q₅ ee => ?_
  refine x1_2 (ref_rel (ex ▸ r₁.mono y₂.le)) fun ax eax hφ => ?_
  refine x1_2 (ref_rel (ey ▸ r₂)) fun ay eay hφ' => ?_
  refine x1_2 (i₂.live _ _ _ hφ ha') fun o ho m => ?_
  refine x1_2 (i₂.live _ _ _ hφ' hb') fun o' ho' m' => ?_
  refine x1_2 (mrel_dict (prog := c.prog) (w := c.w) ho m) fun ka' d kr => ?_
  refine x1_2 (mrel_dict (prog := c.prog) (w := c.w) ho' m') fun kb' d' kr' => ?_
  subst eax; subst eay
  have l1 : ka.length = ka'.length := by have := congrArg List.length kr.keys; simpa using this
  have l2 : kb.length = kb'.length := by have := congrArg List.length kr'.keys; simpa using this
  refine keq_ne (not_sys i₂ hφ ha' (by intro z; cases z)) (not_sys i₂ hφ' hb' (by intro z; cases z)) d d' (by have := rm.units; show A.units < 9900; lia) (fun _ => hits_of (rm.less (Nat.zero_le _)) i₂ kr' kr q₅) ?_
  rw [← l1, ← l2]
  exact wpAny_truthy_bool ⟨W₂, i₂, y₁.trans y₂, z₁.trans z₂, ee.symm⟩
/-! lists put together -/
noncomputable def oCat : V → V → Option V
  | .lst a, .lst b => if a.length + b.length ≤ 1000000 then some (.lst (a ++ b)) else none
  | _, _ => none
theorem cat_inv {a b r : V} (q : oCat a b = some r) : ∃ x y, a = .lst x ∧ b = .lst y := by
  unfold oCat at q
  split at q
  · exact ⟨_, _, rfl, rfl⟩
  · cases q
theorem ok_cat : BinOk c (binaryOp .Add) oCat := by
  intro A s W st a b r a' b' rm iv ra rb q
  ((first | refine x2_2 (cat_inv q) fun vs us eE94 eE95 => ?_ | obtain ⟨vs, us, eE94, eE95⟩ := (cat_inv q)); subst eE94; subst eE95)
  cases ra with | lst f cd rs => cases rb with | lst f' cd' rs' =>
  rename_i a o items n b o' items' n'
  simp only [oCat] at q
  split at q
  · rename_i hl
    cases q
    have l1 : vs.length = items.size := rs.length.trans Array.length_toList
    have l2 : us.length = items'.size := rs'.length.trans Array.length_toList
    have g := iv.froz _ _ f
    have g' := iv.froz _ _ f'
    rw [cd] at g; rw [cd'] at g'
    refine concat_meets ⟨_, g, rfl⟩ ⟨_, g', rfl⟩ noFill_list_add seq_list_add PySem.F.slot_list_add PySem.F.entry_list_add (PySem.F.args_list_add_2 _ _) (PySem.AutoSeq1.list___add___list_list_0 a items n b items' n' (by rw [← l1, ← l2]; exact lineOf hl)) ⟨g, g', ?_⟩
    ((first | refine x0_2 (iv.push { cls := .type "list", data := .seq (items ++ items') } rfl) fun i₂ y₂ => ?_ | obtain ⟨i₂, y₂⟩ := (iv.push { cls := .type "list", data := .seq (items ++ items') } rfl)))
    exact ⟨_, i₂, y₂, ⟨rfl, rfl⟩, .lst (Wd.freeze_self _ _ _) rfl (by rw [Array.toList_append]; exact (rs.app rs').mono y₂.le)⟩
  · cases q
end
end Mine
namespace Mine
/-! a list so many times -/
theorem fold_flat (items : Array Value) : ∀ (k : Nat) (acc : Array Value), (List.foldl (fun x1 x2 => x1 ++ x2) acc (List.replicate k items)).toList = acc.toList ++ (List.replicate k items.toList).flatten
  | 0, acc => by simp
  | k + 1, acc => by rw [List.replicate_succ, List.foldl_cons, fold_flat items k, Array.toList_append, List.replicate_succ, List.flatten_cons, List.append_assoc]
theorem VsRel.times {W : Wd} {vs : List V} {vs' : List Value} (x : VsRel W vs vs') : ∀ k, VsRel W (List.replicate k vs).flatten (List.replicate k vs').flatten
  | 0 => .nil
  | k + 1 => by rw [List.replicate_succ, List.replicate_succ, List.flatten_cons, List.flatten_cons]; exact x.app (x.times k)
noncomputable def vTimes : V → V → Option (List V)
  | .lst vs, .int k => if 0 ≤ k ∧ k ≤ 1000000 ∧ vs.length * k.toNat ≤ 1000000 then some (List.replicate k.toNat vs).flatten else none
  | _, _ => none
noncomputable def oTimes (a b : V) : Option V := (vTimes a b).map .lst
section
variable {c : Cx} {lv : Nat} {sc : Scope}
theorem times_inv {a b : V} {l : List V} (q : vTimes a b = some l) : ∃ x k, a = .lst x ∧ b = .int k := by
  unfold vTimes at q
  split at q
  · exact ⟨_, _, rfl, rfl⟩
  · cases q
theorem times_list {A : Around} {E : Value → Shared → Prop} {s : Shared} {W : Wd} {st : St} {a b : V} {a' b' : Value} {l : List V} {Q : Value → Shared → Prop} (iv : Inv c.h₀ W st s.heap) (ra : VRel W a a') (rb : VRel W b b') (q : vTimes a b = some l)
    (h : ∀ items n, VsRel W l items.toList → Q (.ref s.heap.objs.size) { s with heap := s.heap.push { cls := .type "list", data := .seq items n } }) : wpAny c.M A (binaryOp .Mult a' b') Q E s := by
  ((first | refine x2_2 (times_inv q) fun vs x eE96 eE97 => ?_ | obtain ⟨vs, x, eE96, eE97⟩ := (times_inv q)); subst eE96; subst eE97)
  cases ra with | lst f cd rs => cases rb with | int _ u =>
  rename_i l0 o items n
  simp only [vTimes] at q
  split at q
  · rename_i hk
    cases q
    have l1 : vs.length = items.size := rs.length.trans Array.length_toList
    have g := iv.froz _ _ f
    rw [cd] at g
    rw [l1] at hk
    refine wpAny_binaryOp_repeat_ref (T := "list") (U := "int") (by decide) ⟨_, g, rfl⟩ (fun s' => typeIs_int s' x u) noFill_list_mul PySem.F.fills_int_mul PySem.F.slot_int_rmul repeat_list PySem.F.slot_int_index.lookup
      (call_meets PySem.F.slot_int_rmul (typeIs_int s x u) PySem.F.entry_int_rmul (PySem.F.args_int_rmul_2 _ _) (int___rmul___int_list x u l0 items n)
        ⟨g, rfl, ⟨_, g, rfl⟩, call_meets PySem.F.slot_list_mul ⟨_, g, rfl⟩ PySem.F.entry_list_mul (PySem.F.args_list_mul_2 _ _)
          (AutoListH.list___mul___list_int_3 l0 items n x u (by simp [Builtin.List.listFitsIndex]; lia) (by lia) (by simp [Builtin.List.listTooLong, sizeLine]; lia))
          ⟨g, h _ _ ?_⟩⟩)
    rw [fold_flat]
    by_cases e : items.isEmpty = true
    · rw [if_pos e]
      have e' : items = #[] := by simpa using e
      have e2 : vs = [] := by rw [← List.length_eq_zero_iff, l1, e']; rfl
      subst e'
      subst e2
      have : (List.replicate x.toNat ([] : List V)).flatten = [] := by simp
      rw [this]; exact .nil
    · rw [if_neg e]
      exact rs.times x.toNat
  · cases q
theorem ok_times : BinOk c (binaryOp .Mult) oTimes := by
  intro A s W st a b r a' b' rm iv ra rb q
  refine mapO q fun l q' eR => ?_; subst eR
  refine times_list iv ra rb q' fun items n rs => ?_
  ((first | refine x0_2 (iv.push { cls := .type "list", data := .seq items n } rfl) fun i₂ y₂ => ?_ | obtain ⟨i₂, y₂⟩ := (iv.push { cls := .type "list", data := .seq items n } rfl)))
  exact ⟨_, i₂, y₂, ⟨rfl, rfl⟩, .lst (Wd.freeze_self _ _ _) rfl (rs.mono y₂.le)⟩
noncomputable def dTimesM (a b : Den V) : Den V := fun ρ st => (a ρ st).bind fun p => (b ρ p.2).bind fun q => (vTimes p.1 q.1).map fun l => (.ref q.2.length, q.2 ++ [.lst l])
theorem e_timesM {l r : Expr} {pos : Pos} {a b : Den V} (ha : ESound c lv sc l a) (hb : ESound c lv sc r b) : ESound c lv sc (.BinOp l .Mult r pos) (dTimesM a b) := by
  intro A env s W ρ st st' v rm eo iv q
  refine hide fun G kG => ?_
  refine bindP q fun v₁ st₁ q₁ q => ?_
  refine bindP q fun v₂ st₂ q₂ q => ?_
  refine mapO q fun vs q₃ q => ?_
  cases q
  refine kG ?_
  refine wpAny_BinOp ((ha A env s W ρ st st₁ v₁ rm eo iv q₁).to fun W₁ a₁ s₁ i₁ y₁ z₁ r₁ => ?_)
  refine (hb A env s₁ W₁ ρ st₁ st₂ v₂ rm (eo.step y₁) i₁ q₂).to fun W₂ a₂ s₂ i₂ y₂ z₂ r₂ => ?_
  refine times_list i₂ (r₁.mono y₂.le) r₂ q₃ fun items n rs => ?_
  ((first | refine x0_2 (i₂.alloc { cls := .type "list", data := .seq items n } (.lst vs) rfl (.lst rfl rfl (rs.mono (W₂.add_le _)))) fun i₃ y₃ => ?_ | obtain ⟨i₃, y₃⟩ := (i₂.alloc { cls := .type "list", data := .seq items n } (.lst vs) rfl (.lst rfl rfl (rs.mono (W₂.add_le _))))))
  exact ⟨_, i₃, (y₁.trans y₂).trans y₃, ⟨z₂.gens.trans z₁.gens, z₂.os.trans z₁.os⟩, .ref (alloc_ref i₂)⟩
/-! not in -/
noncomputable def oNotIn : V → V → Option V
  | x, .tup vs => (vData x).bind fun d => (vDatas vs).bind fun ds => if SeqAt.shaped d && SeqAt.shaped (.tuple ds) then some (.bool (!ds.any fun y => PyData.eqv y d)) else none
  | _, _ => none
theorem notin_inv {a b r : V} (q : oNotIn a b = some r) : ∃ x, b = .tup x := by
  unfold oNotIn at q
  split at q
  · exact ⟨_, rfl⟩
  · cases q
theorem ok_notin : BinOk c (compareOp .NotIn) oNotIn := by
  intro A s W st a b r a' b' rm iv ra rb q
  ((first | refine x1_1 (notin_inv q) fun vs eE98 => ?_ | obtain ⟨vs, eE98⟩ := (notin_inv q)); subst eE98)
  cases rb with | tup f cd rs =>
  rename_i t o items n
  simp only [oNotIn] at q
  refine bindO q fun d q₁ q => ?_
  refine bindO q fun ds q₂ q => ?_
  split at q
  · rename_i hs
    cases q
    rw [Bool.and_eq_true] at hs
    ((first | refine x1_1 (reads_of iv ra q₁) fun as r1 => ?_ | obtain ⟨as, r1⟩ := (reads_of iv ra q₁)))
    ((first | refine x1_1 (reads_of (v := .tup vs) (d := .tuple ds) iv (.tup f cd rs) (by rw [vData, q₂]; rfl)) fun bs r2 => ?_ | obtain ⟨bs, r2⟩ := (reads_of (v := .tup vs) (d := .tuple ds) iv (.tup f cd rs) (by rw [vData, q₂]; rfl))))
    have h1 := SeqAt.canLay_of_shaped hs.1
    have h2 := SeqAt.canLay_of_shaped hs.2
    have h3 := SeqAt.depth_of_shaped hs.1
    refine SeqAt.notIn_tuple_reads r2 r1 (by simpa [PyData.canLay0] using h2) h1 ?_ (endHere0 iv (.bool _))
    have := rm.units
    have : min (PyData.depthAll ds) d.depth ≤ d.depth := Nat.min_le_right _ _
    show A.units + 1 + _ < 9900
    lia
  · cases q
/-! a < b < c -/
noncomputable def tChain (o₁ o₂ : V → V → Option V) (a b d : Den V) : Den Bool := fun ρ st => (a ρ st).bind fun p => (b ρ p.2).bind fun q => match o₁ p.1 q.1 with
  | some (.bool true) => (d ρ q.2).bind fun r => match o₂ q.1 r.1 with
    | some (.bool e) => some (e, r.2)
    | _ => none
  | some (.bool false) => some (false, q.2)
  | _ => none
theorem t_chain {l r₁ r₂ : Expr} {op₁ op₂ : CmpOp} {o₁ o₂ : V → V → Option V} {pos : Pos} {a b d : Den V} (ok₁ : BinOk c (compareOp op₁) o₁) (ok₂ : BinOk c (compareOp op₂) o₂) (ha : ESound c lv sc l a) (hb : ESound c lv sc r₁ b) (hd : ESound c lv sc r₂ d) (hm : behindInMarks op₂ r₂ = false := by with_unfolding_all rfl) :
    TSound c lv sc (.Compare l [op₁, op₂] [r₁, r₂] pos) (tChain o₁ o₂ a b d) := by
  intro A env s W ρ st st' v rm eo iv q
  refine hide fun G kG => ?_
  refine bindP q fun v₁ st₁ q₁ q => ?_
  refine bindP q fun v₂ st₂ q₂ q => ?_
  refine kG ?_
  rw [arm_isTrue_Compare]
  refine wpAny_bind ((ha A env s W ρ st st₁ v₁ rm eo iv q₁).to fun W₁ a₁ s₁ i₁ y₁ z₁ r₁ => ?_)
  show wpAny c.M A (testChain pos a₁ [op₁, op₂] [eval _ env, markedBehindIn op₂ _ (eval _ env)]) _ _ _
  rw [markedBehindIn_of_false hm]
  show wpAny c.M A (holding [a₁] (eval _ env) >>= _) _ _ _
  refine wpAny_bind (wpAny_holding ((hb A env s₁ W₁ ρ st₁ st₂ v₂ rm (eo.step y₁) i₁ q₂).to fun W₂ a₂ s₂ i₂ y₂ z₂ r₂ => ?_))
  refine wpAny_bind (wpAny_standAt ?_)
  have r₁ := r₁.mono y₂.le
  dsimp only at q
  split at q
  · rename_i e₁
    refine bindP q fun v₃ st₃ q₃ q => ?_
    dsimp only at q
    split at q
    · rename_i e e₂
      cases q
      refine wpAny_bind (wpAny_holding ((ok₁ A s₂ W₂ st₂ v₁ v₂ _ a₁ a₂ (rm.less (Nat.zero_le _)) i₂ r₁ r₂ e₁).to fun W₃ a₃ s₃ i₃ y₃ z₃ r₃ => ?_))
      cases r₃
      refine wpAny_bind (wpAny_release (wpAny_bind (wpAny_holding (wpAny_truthy_bool ?_))))
      rw [if_pos rfl]
      show wpAny c.M A (holding [a₂] (eval _ env) >>= _) _ _ _
      refine wpAny_bind (wpAny_holding ((hd A env s₃ W₃ ρ st₂ st' v₃ rm (((eo.step y₁).step y₂).step y₃) i₃ q₃).to fun W₄ a₄ s₄ i₄ y₄ z₄ r₄ => ?_))
      refine wpAny_bind (wpAny_standAt (wpAny_bind (wpAny_operate' ((ok₂ A s₄ W₄ st' v₂ v₃ _ a₂ a₄ (rm.less (Nat.zero_le _)) i₄ ((r₂.mono y₃.le).mono y₄.le) r₄ e₂).to fun W₅ a₅ s₅ i₅ y₅ z₅ r₅ => ?_))))
      cases r₅
      exact wpAny_holding (wpAny_truthy_bool ⟨W₅, i₅, (((y₁.trans y₂).trans y₃).trans y₄).trans y₅, (((z₁.trans z₂).trans z₃).trans z₄).trans z₅, rfl⟩)
    · cases q
  · rename_i e₁
    cases q
    refine wpAny_bind (wpAny_holding ((ok₁ A s₂ W₂ st' v₁ v₂ _ a₁ a₂ (rm.less (Nat.zero_le _)) i₂ r₁ r₂ e₁).to fun W₃ a₃ s₃ i₃ y₃ z₃ r₃ => ?_))
    cases r₃
    refine wpAny_bind (wpAny_release (wpAny_bind (wpAny_holding (wpAny_truthy_bool ?_))))
    rw [if_neg Bool.false_ne_true]
    exact wpAny_pure ⟨W₃, i₃, (y₁.trans y₂).trans y₃, (z₁.trans z₂).trans z₃, rfl⟩
  · cases q
/-! o.append(e) on a list of the state -/
noncomputable def dPush (o a : Den V) : Den V := fun ρ st => (o ρ st).bind fun p => match p.1 with
  | .ref i => match p.2[i]? with
    | some (.grow _) => (a ρ p.2).bind fun q => match q.2[i]? with
      | some (.grow vs) => if vs.length ≤ 1000000 then some (.none, q.2.set i (.grow (vs ++ [q.1]))) else none
      | _ => none
    | _ => none
  | _ => none
theorem e_push {o arg : Expr} {ap pos : Pos} {b a : Den V} (hb : ESound c lv sc o b) (ha : EsSound c lv sc [arg] (dCons a dNil))
    (he : ∀ env, ∃ pl, eval (.Call (.Attribute o "append" ap) [arg] [] pos) env = (do
      let ov ← eval o env
      standAt ap.atName
      let (f, first) ← holding [ov] (getMethod ov "append" pl)
      callWith pos f first (backTo pos (starEach [arg] env)) (backToKw pos (keywordEach [] env))))
    (hns : NoStar [arg]) (hp : ∀ env, (backTo pos (starEach [arg] env)).any (·.1) = false) : ESound c lv sc (.Call (.Attribute o "append" ap) [arg] [] pos) (dPush b a) := by
  intro A env s W ρ st st' v rm eo iv q
  refine hide fun G kG => ?_
  refine bindP q fun x st₁ q₁ q => ?_
  dsimp only at q
  split at q
  rotate_left
  · cases q
  rename_i i
  split at q
  rotate_left
  · cases q
  rename_i ws hs₀
  refine bindP q fun u st₂ q₂ q => ?_
  dsimp only at q
  split at q
  rotate_left
  · cases q
  rename_i vs hs
  split at q
  rotate_left
  · cases q
  rename_i hlen
  cases q
  obtain ⟨pl, he⟩ := he env
  refine kG ?_
  refine methodCall_KW (pl := pl) ((hb A env s W ρ st st₁ _ rm eo iv q₁).to fun W₁ x' s₁ i₁ y₁ z₁ r₁ => ?_) he
  refine x1_2 (ref_rel r₁) fun a0 ea hφ => ?_; subst ea
  · refine x1_2 (i₁.live _ _ _ hφ hs₀) fun o₀ ho₀ m₀ => ?_
    refine x2_2 (mgrow_rel m₀) fun _ _ cd₀ rs₀ => ?_
    · refine getMethod_list_append ho₀ cd₀.cls (by rw [cd₀]) ?_
      refine Calls.callWith_builtin (hp env) (args_then rm (eo.step y₁) i₁ ha (show dCons a dNil ρ st₁ = some ([u], st₂) by unfold dCons dNil; rw [q₂]; rfl) (hns env pos) fun W₂ vs' s₂ i₂ y₂ z₂ r₂ => ?_)
      refine x1_2 (vs_one r₂) fun _ ea ru => ?_; subst ea
      · have hφ₂ := y₂.le.φ _ _ hφ
        refine x1_2 (i₂.live _ _ _ hφ₂ hs) fun o₁ ho₁ m₁ => ?_
        refine x2_2 (mgrow_rel m₁) fun items n cd rs => ?_
        ·
          have l1 : vs.length = items.size := rs.length.trans Array.length_toList
          refine wpAny_list_append_plain (l := a0) (items := items) (hsz := by rw [← l1]; exact lineOf hlen) ⟨n, by rw [ho₁, cd]⟩ fun h' hl hsb => ?_
          refine hl.elim fun n' hl => ?_
          obtain ⟨i₃, y₃⟩ := i₂.setAt (m' := .grow (vs ++ [u])) hφ₂ hs (by intro z; cases z) hsb hl (.grow rfl (by rw [Array.toList_push]; exact rs.snoc ru))
          exact ⟨W₂, i₃, (y₁.trans y₂).trans y₃, ⟨z₂.gens.trans z₁.gens, z₂.os.trans z₁.os⟩, .none⟩
end
end Mine
namespace Mine
/-! {k: v, k': v'} with numbers for keys -/
/-- a thing that stands already becomes one of the state -/
theorem Inv.adopt {h₀ : Heap} {W : Wd} {st : St} {h : Heap} (x : Inv h₀ W st h) {D : Addr} {o : Obj} {m : MO} (hD : h.get? D = some o) (out : Out W D) (r : MRel (W.add D) m o) : Inv h₀ (W.add D) (st ++ [m]) h := by
  refine ⟨x.base, x.froz, by simp [Wd.add, x.len], ?_, fun i a m' e q nd => ?_, fun i a m' e q => ?_⟩
  · show (W.φ ++ [D]).Nodup
    rw [List.nodup_append]
    refine ⟨x.nodup, by simp, fun a ha b hb => ?_⟩
    rw [List.mem_singleton.mp hb]; exact fun z => out.2 (z ▸ ha)
  · change (W.φ ++ [D])[i]? = some a at e
    show W.fz a = none
    by_cases hi : i < W.φ.length
    · rw [List.getElem?_append_left hi] at e
      rw [List.getElem?_append_left (x.len ▸ hi)] at q
      exact x.free i a m' e q nd
    · have : a = D := by
        have := (List.getElem?_eq_some_iff.mp e).1
        simp at this
        have hi' : i = W.φ.length := by lia
        subst hi'
        rw [List.getElem?_append_right (Nat.le_refl _)] at e
        simp at e; exact e.symm
      subst this
      exact out.1
  · change (W.φ ++ [D])[i]? = some a at e
    by_cases hi : i < W.φ.length
    · rw [List.getElem?_append_left hi] at e
      rw [List.getElem?_append_left (x.len ▸ hi)] at q
      ((first | refine x1_2 (x.live i a m' e q) fun p r' t => ?_ | obtain ⟨p, r', t⟩ := (x.live i a m' e q)))
      exact ⟨p, r', t.mono (W.add_le D)⟩
    · have hi' : i = W.φ.length := by
        have := (List.getElem?_eq_some_iff.mp e).1
        simp at this; lia
      subst hi'
      rw [List.getElem?_append_right (Nat.le_refl _)] at e
      rw [x.len, List.getElem?_append_right (Nat.le_refl _)] at q
      simp at e q
      subst e; subst q
      exact ⟨o, hD, r⟩
theorem StepG.adopt {W₀ W : Wd} {g : Addr → Option Obj} {h : Heap} {D : Addr} (x : StepG W₀ g W h) (n : g D = none) : StepG W₀ g (W.add D) h := by
  ((first | refine x1_2 x.pre fun r e hr => ?_ | obtain ⟨r, e, hr⟩ := x.pre))
  exact ⟨x.keep, x.alive, x.fz, x.old, r ++ [D], by show W.φ ++ [D] = _; rw [e, List.append_assoc], fun a ha => (List.mem_append.mp ha).elim (hr a) fun z => by rw [List.mem_singleton.mp z]; exact n⟩
section
variable {c : Cx} {lv : Nat} {sc scope : Scope}
noncomputable def dDict2 (k₁ k₂ : Int) (a b : Den V) : Den V := fun ρ st => (a ρ st).bind fun p => (b ρ p.2).map fun q => (.ref q.2.length, q.2 ++ [.dict (kvPut (kvPut [] k₁ p.1) k₂ q.1)])
theorem e_dict2 {k₁ k₂ : Int} {n₁ n₂ : Nat} {p₁ p₂ pos : Pos} {x y : Expr} {a b : Den V} (ha : ESound c lv sc x a) (hb : ESound c lv sc y b) : ESound c lv sc (.Dict [some (.Constant (.int k₁) n₁ p₁), some (.Constant (.int k₂) n₂ p₂)] [x, y] pos) (dDict2 k₁ k₂ a b) := by
  intro A env s W ρ st st' v rm eo iv q
  refine bindP q fun u st₁ q₁ q => ?_
  refine mapP q fun w st₂ q₂ q => ?_
  cases q
  refine wpAny_Dict_walk (knd := intKind c.prog c.w) (by rfl) (by rfl) (by simp) (by simp) ?_
  ((obtain ⟨H0, gg, dd, tt, oo⟩ := s); try clear s)
  dsimp only at iv eo ⊢
  have kp : ∀ (b : Addr) (p : Obj), H0.get? b = some p → (H0.push { cls := .type "dict", data := .dict #[] }).get? b = some p := fun b p q => Heap.get?_push_of_some _ q
  have y₀ : Step W H0 W (H0.push { cls := .type "dict", data := .dict #[] }) := Step.grow kp
  have hD0 : H0.get? H0.objs.size = none := heap_out _
  have gD : (H0.push { cls := .type "dict", data := .dict #[] }).get? H0.objs.size = some { cls := .type "dict", data := .dict #[] } := Heap.get?_push_size _ rfl
  have out₀ : Out W H0.objs.size := iv.out hD0
  refine pairTrees_cons_walk (wpAny_Constant_int ?_)
  refine (ha A env ⟨H0.push { cls := .type "dict", data := .dict #[] }, gg, dd, _, oo⟩ W ρ st st₁ u rm (eo.step y₀) (iv.grow kp) q₁).to fun W₁ u' s₁ i₁ y₁ z₁ r₁ => ?_
  refine pairTrees_cons_walk (wpAny_Constant_int ?_)
  refine (hb A env { s₁ with toks := s₁.toks + 1 } W₁ ρ st₁ st₂ w rm ((eo.step y₀).step y₁) i₁ q₂).to fun W₂ w' s₂ i₂ y₂ z₂ r₂ => ?_
  refine pairTrees_nil_walk ?_
  have g₁ := y₁.keep _ _ gD out₀.2
  have out₁ := out₀.step y₁ gD
  have g₂ := y₂.keep _ _ g₁ out₁.2
  have out₂ := out₁.step y₂ g₁
  refine ⟨[(k₁, u'), (k₂, w')], ⟨(isInt_iff k₁ k₁ tt).mpr rfl, rfl, (isInt_iff k₂ k₂ s₁.toks).mpr rfl, rfl, trivial⟩, ⟨_, #[], 0, g₂, ⟨rfl, rfl, rfl⟩, rfl, fun e he => by simp at he, .nil, List.nodup_nil⟩, fun h' d hsb => ?_⟩
  have kr : KvRel W₂ (kvPut (kvPut [] k₁ u) k₂ w) (merged [] [(k₁, u'), (k₂, w')]) := (KvRel.nil.put k₁ (r₁.mono y₂.le)).put k₂ r₂
  have i₃ : Inv c.h₀ W₂ st₂ h' := i₂.turn hsb out₂.1 out₂.2
  have t₃ : Step W H0 W₂ h' := ((y₀.trans y₁).trans y₂).turn hsb hD0
  ((first | refine x1_2 (dict_mrel d (kr.mono (W₂.add_le H0.objs.size))) fun o ho m => ?_ | obtain ⟨o, ho, m⟩ := (dict_mrel d (kr.mono (W₂.add_le H0.objs.size)))))
  refine ⟨_, i₃.adopt ho out₂ m, t₃.adopt hD0, ⟨z₂.gens.trans z₁.gens, z₂.os.trans z₁.os⟩, .ref ?_⟩
  show (W₂.φ ++ [H0.objs.size])[st₂.length]? = _
  rw [← i₂.len, List.getElem?_append_right (Nat.le_refl _)]; simp
end
end Mine
namespace Mine
/-! a block over zip(list, tuple) -/
section
variable {prog : Program} {w : World} {A : Around} {E : Value → Shared → Prop} {s : Shared}
theorem nextOf_tuple {it t : Addr} {i : Nat} {items : Array Value} {x : Value} {Q : Value → Shared → Prop} (hit : s.heap.IsTupleIter it t i) (ht : s.heap.IsTuple t items) (hx : items[i]? = some x)
    (hQ : ∀ h', h'.IsTupleIter it t (i + 1) → Heap.SameBut it s.heap h' → Q x { s with heap := h' }) : wpAny (model prog w) A (Builtin.SmallTypes.nextOf (.ref it)) Q E s := by
  ((first | refine x1_3 (id hit) fun o ho hc hd => ?_ | obtain ⟨o, ho, hc, hd⟩ := (id hit)))
  ((obtain ⟨ol, hol, _, nl, hdl⟩ := ht); try clear ht)
  unfold Builtin.SmallTypes.nextOf
  refine wpAny_bind (wpAny_callSpecial?_slot (name := Str.ofString "__next__") hit.typeIs PySem.F.slot_tuple_iterator_next
    (wpAny_call_entry PySem.F.slot_tuple_iterator_next hit.typeIs PySem.F.entry_tuple_iterator_next ?_ (PySem.F.args_tuple_iterator_next_1 _)))
  show wpAny _ _ (field (.ref it) 0 >>= _) _ _ s
  refine wpAny_bind (wpAny_field ho hd (x := .ref t) rfl ?_)
  show wpAny _ _ (if (Value.ref t == Value.none) = true then _ else _) _ _ s
  rw [if_neg (show ¬ ((Value.ref t == Value.none) = true) from Bool.false_ne_true)]
  show wpAny _ _ (field (.ref it) 1 >>= _) _ _ s
  refine wpAny_bind (wpAny_field ho hd (x := .int i 0) rfl ?_)
  show wpAny _ _ (seqItems? (.ref t) >>= _) _ _ s
  refine wpAny_bind (wpAny_seqItems hol hdl ?_)
  simp only [Int.toNat_natCast, hx]
  refine wpAny_bind (wpAny_setField ho hd (by simp) (wpAny_pure ⟨x, rfl, wpAny_pure (hQ _ ?_ (Heap.SameBut.update ..))⟩))
  exact ⟨_, Heap.get?_update_self _ ho (Obj.isFreed_of_fields (Obj.data_mapFields hd _)), (Obj.cls_mapFields ..).trans hc, by
    rw [Obj.data_mapFields hd]; simp [rawInt]⟩
structure ZipAt (h : Heap) (n l1 l2 : Addr) (xs ys : Array Value) (k : Nat) (f0 : Value) : Prop where
  z : IsZip h (n + 4) (n + 2) (n + 3) f0
  ti : IsPair h (n + 2) (.ref n) (.ref (n + 1))
  to_ : ∃ a b, IsPair h (n + 3) a b
  i1 : h.IsListIter n l1 k
  i2 : h.IsTupleIter (n + 1) l2 k
  l1 : h.IsList l1 xs
  l2 : h.IsTuple l2 ys
theorem ne_add {n : Nat} (a b : Nat) (h : a ≠ b) : n + a ≠ n + b := fun e => h (Nat.add_left_cancel e)
theorem ZipAt.ext {h h' : Heap} {n l1 l2 : Addr} {xs ys : Array Value} {k : Nat} {f0 : Value} (x : ZipAt h n l1 l2 xs ys k f0) (e : ∀ (b : Addr) (o : Obj), b = l1 ∨ b = l2 ∨ (n ≤ b ∧ b < n + 5) → h.get? b = some o → h'.get? b = some o) : ZipAt h' n l1 l2 xs ys k f0 := by
  have L : ∀ j : Nat, j < 5 → n ≤ n + j ∧ n + j < n + 5 := fun j hj => ⟨Nat.le_add_right _ _, Nat.add_lt_add_left hj n⟩
  obtain ⟨z, ti, ⟨a, b, t⟩, ⟨o1, p1, q1⟩, ⟨o2, p2, q2⟩, ⟨o3, p3, q3⟩, ⟨o4, p4, q4⟩⟩ := x
  exact ⟨e _ _ (.inr (.inr (L 4 (by decide)))) z, e _ _ (.inr (.inr (L 2 (by decide)))) ti, ⟨a, b, e _ _ (.inr (.inr (L 3 (by decide)))) t⟩, ⟨o1, e _ _ (.inr (.inr (L 0 (by decide)))) p1, q1⟩, ⟨o2, e _ _ (.inr (.inr (L 1 (by decide)))) p2, q2⟩, ⟨o3, e _ _ (.inl rfl) p3, q3⟩, ⟨o4, e _ _ (.inr (.inl rfl)) p4, q4⟩⟩
theorem zip_item {n l1 l2 : Addr} {xs ys : Array Value} {k : Nat} {x y : Value} {Q : Option Value → Shared → Prop} (Z : ZipAt s.heap n l1 l2 xs ys k .none) (h1 : l1 < n) (h2 : l2 < n) (hx : xs[k]? = some x) (hy : ys[k]? = some y)
    (hQ : ∀ h', ZipAt h' n l1 l2 xs ys (k + 1) (rawInt s.heap.objs.size) → IsPair h' s.heap.objs.size x y → (∀ b o, b ≠ n → b ≠ n + 1 → b ≠ n + 3 → b ≠ n + 4 → s.heap.get? b = some o → h'.get? b = some o) → Q (some (.ref s.heap.objs.size)) { s with heap := h' }) :
    wpAny (model prog w) A (pyNext (.ref (n + 4))) Q E s := by
  obtain ⟨hz, hTI, ⟨a, b, hTO⟩, i1, i2, hl1, hl2⟩ := Z
  have N : ∀ a b : Nat, a ≠ b → (n + a : Nat) ≠ n + b := fun a b h => ne_add a b h
  have Lo : ∀ (l : Addr), l < n → ∀ j : Nat, (l : Nat) ≠ n + j := fun l h j => Nat.ne_of_lt (Nat.lt_of_lt_of_le h (Nat.le_add_right n j))
  have hT : s.TypeIs (.ref (n + 4)) "zip" := ⟨_, hz, rfl⟩
  unfold pyNext
  refine wpAny_bind (wpAny_attempt (wpAny_callSpecial?_slot (name := Str.ofString "__next__") hT PySem.F.slot_zip_next
    (wpAny_call_entry PySem.F.slot_zip_next hT PySem.F.entry_zip_next ?_ (PySem.F.args_zip_next_1 _))))
  show wpAny _ _ (field (.ref (n + 4)) 2 >>= _) _ _ _
  refine wpAny_bind (wpAny_field hz rfl (x := .bool false) rfl ?_)
  show wpAny _ _ (field (.ref (n + 4)) 3 >>= _) _ _ _
  refine wpAny_bind (wpAny_field hz rfl (x := .ref (n + 2)) rfl ?_)
  refine wpAny_bind (wpAny_seqItems hTI rfl ?_)
  show wpAny _ _ (Builtin.SmallTypes.ownedTupleIsFree (.ref (n + 4)) >>= _) _ _ _
  refine wpAny_bind ?_
  unfold Builtin.SmallTypes.ownedTupleIsFree
  refine wpAny_bind (wpAny_field hz rfl (x := .none) rfl (wpAny_pure ?_))
  simp only [if_true]
  refine wpAny_bind (wpAny_rule ?_)
  refine wpAny_bind (wpAny_field hz rfl (x := .ref (n + 3)) rfl ?_)
  refine wpAny_bind (wpAny_setField_rec hz (by simp) fun h₁ hz₁ hs₁ => ?_)
  replace hz₁ : IsZip h₁ (n + 4) (n + 2) (n + 3) .ellipsis := hz₁
  refine wpAny_bind ?_
  simp only [List.zipIdx_cons, List.zipIdx_nil, List.forIn_cons, List.forIn_nil]
  refine wpAny_bind (wpAny_bind (wpAny_onRaise ?_))
  show wpAny _ _ (Builtin.SmallTypes.nextOf (.ref n) >>= _) _ _ _
  refine wpAny_bind (wpAny_nextOf_list_item (i1.extBut hs₁.extBut (N 0 4 (by decide))) (hl1.extBut hs₁.extBut (Lo _ h1 4)) hx fun h₂ i1₂ hs₂ => wpAny_pure ?_)
  have hTO₂ : IsPair h₂ (n + 3) a b := hs₂.extBut _ _ (N 3 0 (by decide)) (hs₁.extBut _ _ (N 3 4 (by decide)) hTO)
  refine wpAny_bind (wpAny_seqItems hTO₂ rfl ?_)
  refine wpAny_bind (wpAny_updateSeq_pair hTO₂ fun h₃ hTO₃ hs₃ => ?_)
  replace hTO₃ : IsPair h₃ (n + 3) x b := hTO₃
  refine wpAny_bind (wpAny_letGo (wpAny_pure ?_))
  refine wpAny_bind (wpAny_bind (wpAny_onRaise ?_))
  show wpAny _ _ (Builtin.SmallTypes.nextOf (.ref (n + 1)) >>= _) _ _ _
  refine wpAny_bind (nextOf_tuple (((i2.extBut hs₁.extBut (N 1 4 (by decide))).extBut hs₂.extBut (N 1 0 (by decide))).extBut hs₃.extBut (N 1 3 (by decide)))
    (((hl2.extBut hs₁.extBut (Lo _ h2 4)).extBut hs₂.extBut (Lo _ h2 0)).extBut hs₃.extBut (Lo _ h2 3)) hy fun h₄ i2₄ hs₄ => wpAny_pure ?_)
  have hTO₄ : IsPair h₄ (n + 3) x b := hs₄.extBut _ _ (N 3 1 (by decide)) hTO₃
  refine wpAny_bind (wpAny_seqItems hTO₄ rfl ?_)
  refine wpAny_bind (wpAny_updateSeq_pair hTO₄ fun h₅ hTO₅ hs₅ => ?_)
  replace hTO₅ : IsPair h₅ (n + 3) x y := hTO₅
  refine wpAny_bind (wpAny_letGo (wpAny_pure (wpAny_pure ?_)))
  refine wpAny_bind (wpAny_seqItems hTO₅ rfl ?_)
  refine wpAny_bind (wpAny_newTuple ?_)
  have hsz : h₅.objs.size = s.heap.objs.size := by rw [hs₅.1, hs₄.1, hs₃.1, hs₂.1, hs₁.1]
  have hz₅ : IsZip h₅ (n + 4) (n + 2) (n + 3) .ellipsis := hs₅.extBut _ _ (N 4 3 (by decide)) (hs₄.extBut _ _ (N 4 1 (by decide)) (hs₃.extBut _ _ (N 4 3 (by decide)) (hs₂.extBut _ _ (N 4 0 (by decide)) hz₁)))
  have hk₅ : ∀ c o, c ≠ n → c ≠ n + 1 → c ≠ n + 3 → c ≠ n + 4 → s.heap.get? c = some o → h₅.get? c = some o := fun c o c1 c2 c3 c4 e =>
    hs₅.extBut _ _ c3 (hs₄.extBut _ _ c2 (hs₃.extBut _ _ c3 (hs₂.extBut _ _ c1 (hs₁.extBut _ _ c4 e))))
  have i1₅ : h₅.IsListIter n l1 (k + 1) := ((i1₂.extBut hs₃.extBut (N 0 3 (by decide))).extBut hs₄.extBut (N 0 1 (by decide))).extBut hs₅.extBut (N 0 3 (by decide))
  have i2₅ : h₅.IsTupleIter (n + 1) l2 (k + 1) := i2₄.extBut hs₅.extBut (N 1 3 (by decide))
  have hzlt : n + 4 < h₅.objs.size := Heap.lt_size hz₅
  show wpAny _ _ (Builtin.SmallTypes.ownedTupleHandOut (.ref (n + 4)) (.ref h₅.objs.size) >>= _) _ _ _
  refine wpAny_bind ?_
  unfold Builtin.SmallTypes.ownedTupleHandOut
  have hz₆ : IsZip (h₅.push { cls := .type "tuple", data := .seq #[x, y] }) (n + 4) (n + 2) (n + 3) .ellipsis := Heap.get?_push_of_some _ hz₅
  refine wpAny_bind (wpAny_setField_rec hz₆ (by simp) fun h₇ hz₇ hs₇ => ?_)
  replace hz₇ : IsZip h₇ (n + 4) (n + 2) (n + 3) (rawInt h₅.objs.size) := hz₇
  refine wpAny_setField_rec hz₇ (by simp) fun h₈ hz₈ hs₈ => ?_
  replace hz₈ : IsZip h₈ (n + 4) (n + 2) (n + 3) (rawInt h₅.objs.size) := hz₈
  have up : ∀ c o, c ≠ n + 4 → h₅.get? c = some o → h₈.get? c = some o := fun c o c1 e => hs₈.extBut _ _ c1 (hs₇.extBut _ _ c1 (Heap.get?_push_of_some _ e))
  have hT₈ : IsPair h₈ h₅.objs.size x y := hs₈.extBut _ _ (Nat.ne_of_gt hzlt) (hs₇.extBut _ _ (Nat.ne_of_gt hzlt) (Heap.get?_push_size _ rfl))
  rw [hsz] at hz₈ hT₈
  refine wpAny_pure ⟨_, rfl, ?_⟩
  refine wpAny_pure ?_
  show Q (some (.ref h₅.objs.size)) _
  rw [hsz]
  refine hQ h₈ ⟨hz₈, up _ _ (N 2 4 (by decide)) (hk₅ _ _ (N 2 0 (by decide)) (N 2 1 (by decide)) (N 2 3 (by decide)) (N 2 4 (by decide)) hTI), ⟨x, y, up _ _ (N 3 4 (by decide)) hTO₅⟩, ?_, ?_, ?_, ?_⟩ hT₈ fun c o c1 c2 c3 c4 e => up c o c4 (hk₅ c o c1 c2 c3 c4 e)
  · obtain ⟨o, p, q⟩ := i1₅; exact ⟨o, up _ _ (N 0 4 (by decide)) p, q⟩
  · obtain ⟨o, p, q⟩ := i2₅; exact ⟨o, up _ _ (N 1 4 (by decide)) p, q⟩
  · obtain ⟨o, p, q⟩ := hl1; exact ⟨o, up _ _ (Lo _ h1 4) (hk₅ _ _ (Lo _ h1 0) (Lo _ h1 1) (Lo _ h1 3) (Lo _ h1 4) p), q⟩
  · obtain ⟨o, p, q⟩ := hl2; exact ⟨o, up _ _ (Lo _ h2 4) (hk₅ _ _ (Lo _ h2 0) (Lo _ h2 1) (Lo _ h2 3) (Lo _ h2 4) p), q⟩
theorem zip_end {n l1 l2 : Addr} {xs ys : Array Value} {k : Nat} {Q : Option Value → Shared → Prop} (hh : A.handled = none) (Z : ZipAt s.heap n l1 l2 xs ys k .none) (h1 : l1 < n) (hx : xs[k]? = none)
    (hQ : ∀ h', (∀ b o, b ≠ n → b ≠ n + 4 → s.heap.get? b = some o → h'.get? b = some o) → Q none { s with heap := h' }) : wpAny (model prog w) A (pyNext (.ref (n + 4))) Q E s := by
  ((obtain ⟨hz, hTI, xE105, i1, i2, hl1, hl2⟩ := Z); try clear Z; ((first | refine x1_2 xE105 fun a b hTO => ?_ | obtain ⟨a, b, hTO⟩ := xE105); try clear xE105))
  have N : ∀ a b : Nat, a ≠ b → (n + a : Nat) ≠ n + b := fun a b h => ne_add a b h
  have Lo : ∀ (l : Addr), l < n → ∀ j : Nat, (l : Nat) ≠ n + j := fun l h j => Nat.ne_of_lt (Nat.lt_of_lt_of_le h (Nat.le_add_right n j))
  have hT : s.TypeIs (.ref (n + 4)) "zip" := ⟨_, hz, rfl⟩
  unfold pyNext
  refine wpAny_bind (wpAny_attempt (wpAny_callSpecial?_slot (name := Str.ofString "__next__") hT PySem.F.slot_zip_next
    (wpAny_call_entry PySem.F.slot_zip_next hT PySem.F.entry_zip_next ?_ (PySem.F.args_zip_next_1 _))))
  show wpAny _ _ (field (.ref (n + 4)) 2 >>= _) _ _ _
  refine wpAny_bind (wpAny_field hz rfl (x := .bool false) rfl ?_)
  show wpAny _ _ (field (.ref (n + 4)) 3 >>= _) _ _ _
  refine wpAny_bind (wpAny_field hz rfl (x := .ref (n + 2)) rfl ?_)
  refine wpAny_bind (wpAny_seqItems hTI rfl ?_)
  show wpAny _ _ (Builtin.SmallTypes.ownedTupleIsFree (.ref (n + 4)) >>= _) _ _ _
  refine wpAny_bind ?_
  unfold Builtin.SmallTypes.ownedTupleIsFree
  refine wpAny_bind (wpAny_field hz rfl (x := .none) rfl (wpAny_pure ?_))
  simp only [if_true]
  refine wpAny_bind (wpAny_rule ?_)
  refine wpAny_bind (wpAny_field hz rfl (x := .ref (n + 3)) rfl ?_)
  refine wpAny_bind (wpAny_setField_rec hz (by simp) fun h₁ hz₁ hs₁ => ?_)
  replace hz₁ : IsZip h₁ (n + 4) (n + 2) (n + 3) .ellipsis := hz₁
  refine wpAny_bind ?_
  simp only [List.zipIdx_cons, List.zipIdx_nil, List.forIn_cons, List.forIn_nil]
  refine wpAny_bind (wpAny_bind (wpAny_onRaise ?_))
  show wpAny _ _ (Builtin.SmallTypes.nextOf (.ref n) >>= _) _ _ _
  refine wpAny_bind (wpAny_nextOf_list_end hh (i1.extBut hs₁.extBut (N 0 4 (by decide))) (hl1.extBut hs₁.extBut (Lo _ h1 4)) hx fun h₂ e hs₂ he => ?_)
  ((first | refine x1_2 he fun oe hoe hce => ?_ | obtain ⟨oe, hoe, hce⟩ := he); try clear he)
  have hz₂ : IsZip h₂ (n + 4) (n + 2) (n + 3) .ellipsis := hs₂ _ _ (N 4 0 (by decide)) hz₁
  have hez : e ≠ n + 4 := fun x => by subst x; rw [hz₂] at hoe; cases hoe; simp at hce
  refine wpAny_setField_rec hz₂ (by simp) fun h₃ _ hs₃ => ?_
  refine wpAny_bind (wpAny_isInstance (T := "StopIteration") (b := true) ⟨oe, hs₃.extBut _ _ hez hoe, hce⟩ isSubtype_stop ?_)
  exact wpAny_pure (hQ h₃ fun c o c1 c2 x => hs₃.extBut _ _ c2 (hs₂ _ _ c1 (hs₁.extBut _ _ c2 x)))
theorem zip_new (l1 l2 : Addr) (xs ys : Array Value) :
    Meets (Builtin.«zip.__new__» ⟨[.type "zip", .ref l1, .ref l2], []⟩) (fun _ R s => s.heap.IsList l1 xs ∧ s.heap.IsTuple l2 ys ∧ ∀ h', ZipAt h' s.heap.objs.size l1 l2 xs ys 0 .none → h'.objs.size = s.heap.objs.size + 5 → (∀ b o, s.heap.get? b = some o → h'.get? b = some o) →
      R (.ok (.ret (.ref (s.heap.objs.size + 4)))) { s with heap := h' }) :=
  .of_wp fun prog w A R s h => by
    obtain ⟨hp, g, d, tk, os⟩ := s; obtain ⟨hl1, hl2, h⟩ := h
    have hsub := sub_zip
    have hL1 : Heap.IsList (Shared.heap ⟨hp, g, d, tk, os⟩) l1 xs := hl1
    have hL2 : Heap.IsTuple (Shared.heap ⟨hp.push { cls := .type "list_iterator", data := .fields #[.ref l1, .int 0 0] }, g, d, tk, os⟩) l2 ys := Heap.IsTuple.push hl2 _
    wp_walk using wpAny_pyIter_list hL1, wpAny_pyIter_tuple hL2
    refine ⟨_, rfl, ?_⟩
    dsimp only at h ⊢
    have key := h (((((hp.push { cls := .type "list_iterator", data := .fields #[.ref l1, .int 0 0] }).push { cls := .type "tuple_iterator", data := .fields #[.ref l2, .int 0 0] }).push { cls := .type "tuple", data := .seq #[.ref hp.objs.size, .ref (hp.objs.size + 1)] }).push { cls := .type "tuple", data := .seq #[.none, .none] }).push { cls := .type "zip", data := .fields #[.none, .bool false, .bool false, .ref (hp.objs.size + 2), .ref (hp.objs.size + 3)] }) ?_ ?_ ?_
    · simp only [Heap.size_push] at key ⊢
      exact key
    · have up : ∀ (H : Heap) (o : Obj) {b : Addr} {p : Obj}, H.get? b = some p → (H.push o).get? b = some p := fun H o b p q => Heap.get?_push_of_some o q
      have at_ : ∀ (H : Heap) (o : Obj) (n : Nat), H.objs.size = n → o.isFreed = false → (H.push o).get? n = some o := fun H o n e f => by subst e; exact Heap.get?_push_size H f
      refine ⟨at_ _ _ _ (by simp only [Heap.size_push]) rfl, up _ _ (up _ _ (at_ _ _ _ (by simp only [Heap.size_push]) rfl)), ⟨.none, .none, up _ _ (at_ _ _ _ (by simp only [Heap.size_push]) rfl)⟩, ⟨_, up _ _ (up _ _ (up _ _ (up _ _ (at_ _ _ _ rfl rfl)))), rfl, rfl⟩, ⟨_, up _ _ (up _ _ (up _ _ (at_ _ _ _ (by simp only [Heap.size_push]) rfl))), rfl, rfl⟩, ?_, ?_⟩
      · obtain ⟨o, p, q⟩ := hl1; exact ⟨o, up _ _ (up _ _ (up _ _ (up _ _ (up _ _ p)))), q⟩
      · obtain ⟨o, p, q⟩ := hl2; exact ⟨o, up _ _ (up _ _ (up _ _ (up _ _ (up _ _ p)))), q⟩
    · simp only [Heap.size_push]
    · intro b o q
      exact Heap.get?_push_of_some _ (Heap.get?_push_of_some _ (Heap.get?_push_of_some _ (Heap.get?_push_of_some _ (Heap.get?_push_of_some _ q))))
theorem call_zip {l1 l2 : Addr} {xs ys : Array Value} {Q : Value → Shared → Prop} (hl1 : s.heap.IsList l1 xs) (hl2 : s.heap.IsTuple l2 ys)
    (h : ∀ h', ZipAt h' s.heap.objs.size l1 l2 xs ys 0 .none → h'.objs.size = s.heap.objs.size + 5 → (∀ b o, s.heap.get? b = some o → h'.get? b = some o) → Q (.ref (s.heap.objs.size + 4)) { s with heap := h' }) :
    wpAny (model prog w) A (call (.type "zip") [.ref l1, .ref l2]) Q E s :=
  callType_new PySem.F.called_zip (by decide) (PySem.F.typeCall_zip_2 _ _) (PySem.F.newCall_zip_2 _ _) (fun obj => PySem.F.args_object_init_3 obj _ _) PySem.F.entry_zip_new
    (zip_new l1 l2 xs ys) ⟨hl1, hl2, fun h' Z hs hk => ⟨⟨_, Z.z, rfl⟩, h h' Z hs hk⟩⟩
end
/-! the block itself -/
noncomputable def zLoop (x y : String) (d : Den V) : List (V × V) → Rho → St → Option (List V × St)
  | [], _, st => some ([], st)
  | p :: r, ρ, st => (d ((ρ.set x p.1).set y p.2) st).bind fun q => (zLoop x y d r ρ q.2).map fun t => (q.1 :: t.1, t.2)
noncomputable def dCompZ (free : List String) (x y : String) (a : Den (List V)) (d : Den V) : Den V := fun ρ st => (a ρ st).bind fun p => match p.1 with
  | [.lst us, .tup vs] => if us.length ≤ vs.length ∧ us.length ≤ 1000000 then (zLoop x y d (us.zip vs) (restrict free ρ) p.2).map fun t => (.lst t.1, t.2) else none
  | _ => none
theorem drop_cons {α : Type} {l : List α} {i : Nat} {a : α} (h : l[i]? = some a) : l.drop i = a :: l.drop (i + 1) := by
  ((obtain ⟨hi, eE106⟩ := (List.getElem?_eq_some_iff.mp h)); subst eE106)
  exact List.drop_eq_getElem_cons hi
section
variable {c : Cx} {lv : Nat} {sc scope : Scope}
theorem Inv.but {h₀ : Heap} {W : Wd} {st : St} {h h' : Heap} (i : Inv h₀ W st h) (k : ∀ (b : Addr) (o : Obj), ¬ Out W b → h.get? b = some o → h'.get? b = some o) : Inv h₀ W st h' :=
  ⟨i.base, fun b o q => k b o (fun z => by rw [z.1] at q; cases q) (i.froz b o q), i.len, i.nodup, i.free, fun j a m q r =>
    let ⟨o, x, y⟩ := i.live j a m q r; ⟨o, k a o (fun z => z.2 (List.mem_of_getElem? q)) x, y⟩⟩
theorem StepG.but {W₀ W : Wd} {g : Addr → Option Obj} {h h' : Heap} (x : StepG W₀ g W h) (k : ∀ (b : Addr) (o p : Obj), g b = some p → h.get? b = some o → h'.get? b = some o) : StepG W₀ g W h' :=
  ⟨fun b o q m => k b o o q (x.keep b o q m), fun b o q => let ⟨o', z⟩ := x.alive b o q; ⟨o', k b o' o q z⟩, x.fz, x.old, x.pre⟩
theorem comp_env2 {env : Env} {W : Wd} {ρ : Rho} {h : Heap} {C : Addr} {m : Str → Option Value} {x y : String} {v u : V} {v' u' : Value} {free : List String} (eo : EnvOk sc env W ρ h) (ok : CompOk sc scope free) (hkind : scope.kind = .function) (hx : scope.names.lookup (Str.ofString x) = some .local) (hy : scope.names.lookup (Str.ofString y) = some .local)
    (hC : C ∉ W.φ) (hn : h.Ns C m) (hm : m (Str.ofString x) = some v') (hm' : m (Str.ofString y) = some u') (rv : VRel W v v') (ru : VRel W u u') : EnvOk scope (compEnvC scope (clOf env scope.names []) C env) W (((restrict free ρ).set x v).set y u) h := by
  have e1 := comp_env eo ok hkind hx hC hn hm rv
  refine ⟨e1.kind, e1.globals, e1.builtins, e1.glob, e1.fr, e1.locals, e1.cells, fun z w q n => ?_⟩
  rw [Rho.set] at q
  split at q
  · rename_i e; subst e; cases q
    exact ⟨u', .inl ⟨lookup_relabel_local hy, m, hn, hm'⟩, ru⟩
  · exact e1.vars z w q n
theorem zLoop_at {x y : String} {d : Den V} {l : List (V × V)} {ρ : Rho} {st st₂ : St} {rest : List V} (h : l = []) (q : zLoop x y d l ρ st = some (rest, st₂)) : [] = rest ∧ st = st₂ := by
  subst h; cases q; exact ⟨rfl, rfl⟩
inductive ZipInv (c : Cx) (us vs : List V) (xs ys : Array Value) (I l1 l2 D C : Addr) (W₁ : Wd) (s₀ : Shared) (x y : String) (d : Den V) (free : List String) (ρ : Rho) (st₂ : St) (out : List V) (n : Nat) (s' : Shared) : Prop
  | mk (W₂ : Wd) (st₀ : St) (k : Nat) (res rest : List V) (m : Str → Option Value) (items : Array Value) (num : n = us.length - k) (le : k ≤ us.length) (z : ZipAt s'.heap I l1 l2 xs ys k .none) (inv : Inv c.h₀ W₂ st₀ s'.heap) (step : Step W₁ s₀.heap W₂ s'.heap) (same : Same s₀ s')
    (oI : ∀ j : Nat, j < 5 → Out W₂ (I + j : Nat)) (oD : Out W₂ D) (oC : Out W₂ C) (acc : s'.heap.PlainList D items) (rel : VsRel W₂ res items.toList) (ns : s'.heap.Ns C m) (run : zLoop x y d ((us.zip vs).drop k) (restrict free ρ) st₀ = some (rest, st₂)) (out : out = res ++ rest) (len : res.length = k)
theorem zip_drop_end {us vs : List V} : (us.zip vs).drop us.length = [] := List.drop_eq_nil_iff.mpr (by rw [List.length_zip]; exact Nat.min_le_left _ _)
theorem zip_drop {us vs : List V} {k : Nat} (h : k < us.length) (h' : k < vs.length) : (us.zip vs).drop k = (us[k], vs[k]) :: (us.zip vs).drop (k + 1) :=
  drop_cons (by rw [List.getElem?_eq_getElem (by rw [List.length_zip]; exact Nat.lt_min.mpr ⟨h, h'⟩), List.getElem_zip])
theorem ZipAt.keep4 {h h2 : Heap} {I l1 l2 : Addr} {xs ys : Array Value} {k : Nat} {f0 : Value} (Z : ZipAt h I l1 l2 xs ys k f0) (hz2 : IsZip h2 (I + 4) (I + 2) (I + 3) .none) (hs2 : Heap.SameBut (I + 4) h h2) (lt1 : l1 < I) (lt2 : l2 < I) : ZipAt h2 I l1 l2 xs ys k .none := by
  obtain ⟨_, ti, ⟨a, b, t⟩, ⟨o1, p1, q1⟩, ⟨o2, p2, q2⟩, ⟨o3, p3, q3⟩, ⟨o4, p4, q4⟩⟩ := Z
  have nl : ∀ l : Addr, l < I → l ≠ I + 4 := fun l h => Nat.ne_of_lt (Nat.lt_of_lt_of_le h (Nat.le_add_right _ _))
  exact ⟨hz2, hs2.extBut _ _ (ne_add 2 4 (by decide)) ti, ⟨a, b, hs2.extBut _ _ (ne_add 3 4 (by decide)) t⟩, ⟨o1, hs2.extBut _ _ (ne_add 0 4 (by decide)) p1, q1⟩, ⟨o2, hs2.extBut _ _ (ne_add 1 4 (by decide)) p2, q2⟩, ⟨o3, hs2.extBut _ _ (nl _ lt1) p3, q3⟩, ⟨o4, hs2.extBut _ _ (nl _ lt2) p4, q4⟩⟩
theorem ZipAt.five {h : Heap} {I l1 l2 : Addr} {xs ys : Array Value} {k : Nat} {f0 : Value} (Z : ZipAt h I l1 l2 xs ys k f0) : ∀ j : Nat, j < 5 → ∃ o, h.get? (I + j : Nat) = some o := fun j hj => by
  obtain ⟨z, ti, ⟨a, b, t⟩, ⟨o1, p1, _⟩, ⟨o2, p2, _⟩, _, _⟩ := Z
  match j, hj with
  | 0, _ => exact ⟨_, p1⟩
  | 1, _ => exact ⟨_, p2⟩
  | 2, _ => exact ⟨_, ti⟩
  | 3, _ => exact ⟨_, t⟩
  | 4, _ => exact ⟨_, z⟩
theorem compZ_core {elt iter : Expr} {x y : String} {px py tp pos : Pos} {tk : Nat} {free : List String} {d : Den V} {A : Around} {env : Env} {s₁ : Shared} {W₁ : Wd} {ρ : Rho} {st₁ st₂ : St} {us vs out : List V} {xs ys : Array Value} {l1 l2 I : Addr} {o1 o2 : Obj} {hz : Heap} {E : Value → Shared → Prop} {RR : Value → Addr → Result → Shared → Prop}
    (hd : ESound c lv scope elt d) (ok : CompOk sc scope free) (hkind : scope.kind = .function) (hx : scope.names.lookup (Str.ofString x) = some .local) (hy : scope.names.lookup (Str.ofString y) = some .local) (hxy : Str.ofString x ≠ Str.ofString y)
    (rm : Room A lv) (eo₁ : EnvOk sc env W₁ ρ s₁.heap) (i₁ : Inv c.h₀ W₁ st₁ s₁.heap) (hI : s₁.heap.objs.size = I) (f : W₁.fz l1 = some o1) (f' : W₁.fz l2 = some o2) (rs : VsRel W₁ us xs.toList) (rs' : VsRel W₁ vs ys.toList) (hlen : us.length ≤ vs.length ∧ us.length ≤ 1000000) (q₃ : zLoop x y d (us.zip vs) (restrict free ρ) st₁ = some (out, st₂))
    (Z : ZipAt hz I l1 l2 xs ys 0 .none) (hsz : hz.objs.size = I + 5) (kz : ∀ b o, s₁.heap.get? b = some o → hz.get? b = some o) (hR : CompEnd c W₁ s₁ st₂ out RR) :
    wpAny c.M A (newList []) (fun acc s₃ => wpAny c.M A (newFunctionEnv scope env.globals (clOf env scope.names []) [] env.qual none .none (some env)) (fun cenv s₄ =>
      codeAny c.M A (.compStart (.ListComp elt [⟨.Tuple [.Name (Str.ofString x) px, .Name (Str.ofString y) py] tk tp, iter, [], 0⟩] scope pos) 0 (.ref (I + 4)) acc { cenv with scope := relabel scope env }) (RR acc cenv.locals) s₄) E s₃) E { s₁ with heap := hz } := by
  have lt1 : l1 < I := hI ▸ Heap.lt_size (i₁.froz _ _ f)
  have lt2 : l2 < I := hI ▸ Heap.lt_size (i₁.froz _ _ f')
  refine wpAny_newObj_type (wpAny_newFunctionEnv ok.nocell (by intro y hy; simp at hy) (fun h₁ hns hsb => ?_) hkind)
  dsimp only at hns hsb ⊢
  generalize hD : hz.objs.size = D
  generalize hC : (hz.push { cls := .type "list", dict := none, data := .seq ([] : List Value).toArray }).objs.size = C at hns hsb ⊢
  have eD : D = I + 5 := by rw [← hD, hsz]
  have eC : C = I + 6 := by rw [← hC, Heap.size_push, hsz]
  have old0 : ∀ a : Addr, I ≤ a → s₁.heap.get? a = none := fun a h => get_beyond (by rw [hI]; exact h)
  have hD0 : s₁.heap.get? D = none := old0 D (by rw [eD]; exact Nat.le_add_right _ _)
  have hC0 : s₁.heap.get? C = none := old0 C (by rw [eC]; exact Nat.le_add_right _ _)
  have nCD : D ≠ C := by rw [eC, eD]; exact ne_add 5 6 (by decide)
  have nDj : ∀ j : Nat, j < 5 → (I + j : Nat) ≠ D := fun j hj => by rw [eD]; exact ne_add j 5 (Nat.ne_of_lt hj)
  have nCj : ∀ j : Nat, j < 5 → (I + j : Nat) ≠ C := fun j hj => by rw [eC]; exact ne_add j 6 (Nat.ne_of_lt (Nat.lt_succ_of_lt hj))
  have up : ∀ (b : Addr) (p : Obj), hz.get? b = some p → h₁.get? b = some p := fun b p w => by
    refine hsb.extBut b p ?_ (Heap.get?_push_of_some _ (Heap.get?_push_of_some _ w))
    have := Heap.lt_size w
    rw [hsz] at this
    rw [eC]; exact Nat.ne_of_lt (Nat.lt_succ_of_lt this)
  have gD : h₁.PlainList D #[] := ⟨_, hsb.extBut D _ nCD (Heap.get?_push_of_some _ (by rw [← hD]; exact Heap.get?_push_size _ rfl))⟩
  have t₁ : Step W₁ s₁.heap W₁ h₁ := Step.grow fun b p w => up b p (kz b p w)
  have i₂ : Inv c.h₀ W₁ st₁ h₁ := i₁.grow fun b p w => up b p (kz b p w)
  have Z₁ : ZipAt h₁ I l1 l2 xs ys 0 .none := Z.ext fun b o _ q => up b o q
  have lx : us.length = xs.size := rs.length.trans Array.length_toList
  have nl1 : ∀ a : Addr, I ≤ a → l1 ≠ a := fun a h => Nat.ne_of_lt (Nat.lt_of_lt_of_le lt1 h)
  have nl2 : ∀ a : Addr, I ≤ a → l2 ≠ a := fun a h => Nat.ne_of_lt (Nat.lt_of_lt_of_le lt2 h)
  have IleJ : ∀ j : Nat, I ≤ I + j := fun j => Nat.le_add_right I j
  have IleD : I ≤ D := by rw [eD]; exact Nat.le_add_right _ _
  have IleC : I ≤ C := by rw [eC]; exact Nat.le_add_right _ _
  have loop : codeAny c.M A (.compLoop (.ListComp elt [⟨.Tuple [.Name (Str.ofString x) px, .Name (Str.ofString y) py] tk tp, iter, [], 0⟩] scope pos) 0 (.ref (I + 4)) (.ref D) (compEnvC scope (clOf env scope.names []) C env)) (RR (.ref D) C) ⟨h₁, s₁.gens, s₁.drawn, s₁.toks + ([] : List (Str × Value)).length, s₁.os⟩ := by
    refine LCp.codeAny_compLoop_pair (ZipInv c us vs xs ys I l1 l2 D C W₁ s₁ x y d free ρ st₂ out) (fun n s' hinv => ?_) us.length
      ⟨W₁, st₁, 0, [], out, _, #[], by simp, Nat.zero_le _, Z₁, i₂, t₁, ⟨rfl, rfl⟩, fun j hj => i₁.out (old0 _ (Nat.le_add_right _ _)), i₁.out hD0, i₁.out hC0, gD, .nil, hns, q₃, rfl, rfl⟩
    obtain ⟨W₂, st₀, k, res, rest, m, items, num, hk, Z, iv, t, S, oI, oD, oC, lD, rr, ns, qz, hout, hrl⟩ := hinv
    by_cases hend : k = us.length
    · have e0 := (zLoop_at (hend ▸ zip_drop_end) qz)
      refine zip_end rm.handled Z lt1 (by rw [Array.getElem?_eq_none_iff, ← lx, hend]; exact Nat.le_refl _) fun h' hx' => ?_
      refine lD.elim fun nn hob => ?_
      refine hR D C W₂ _ m items nn ((e0.2 ▸ iv : Inv c.h₀ W₂ st₂ s'.heap).but fun b o no e => hx' b o (fun z => no (z ▸ oI 0 (by decide))) (fun z => no (z ▸ oI 4 (by decide))) e) (t.but fun b o p e e' => hx' b o (fun z => by rw [z, old0 I (Nat.le_refl _)] at e; cases e) (fun z => by rw [z, old0 _ (IleJ 4)] at e; cases e) e')
        ⟨S.gens, S.os⟩ (ns.at' fun o e => hx' _ o (nCj 0 (by decide)).symm (nCj 4 (by decide)).symm e) (hx' D _ (nDj 0 (by decide)).symm (nDj 4 (by decide)).symm hob) (by rw [hout, ← e0.1, List.append_nil]; exact rr) oD oC hD0 hC0 nCD
    · have hlt : k < us.length := Nat.lt_of_le_of_ne hk hend
      have hlt2 : k < vs.length := Nat.lt_of_lt_of_le hlt hlen.1
      refine x1_2 (rs.get (List.getElem?_eq_getElem hlt)) fun x' hx' rx => ?_
      refine x1_2 (rs'.get (List.getElem?_eq_getElem hlt2)) fun y' hy' ry => ?_
      rw [zip_drop hlt hlt2] at qz
      refine bindP qz fun u st₃ q₄ qz => ?_
      refine mapP qz fun rest' st₄ q₅ qz => ?_
      have e1 : u :: rest' = rest := congrArg Prod.fst qz
      have e2 : st₄ = st₂ := congrArg Prod.snd qz
      refine zip_item Z lt1 lt2 (by simpa using hx') (by simpa using hy') fun h' Z' T hk' => ?_
      generalize hTT : s'.heap.objs.size = TT at Z' T ⊢
      have zT : (I + 4 : Nat) ≠ TT := by rw [← hTT]; exact Nat.ne_of_lt (Heap.lt_size Z.z)
      refine wpAny_letOwnedTupleGo_zip Z'.z fun h2 hz2 hs2 => ?_
      have Z2 : ZipAt h2 I l1 l2 xs ys (k + 1) .none := Z'.keep4 hz2 hs2 lt1 lt2
      have T2 : IsPair h2 TT x' y' := hs2.extBut _ _ zT.symm T
      have K2 : ∀ (b : Addr) (o : Obj), (∀ j : Nat, j < 5 → b ≠ I + j) → s'.heap.get? b = some o → h2.get? b = some o := fun b o n e =>
        hs2.extBut b o (n 4 (by decide)) (hk' b o (n 0 (by decide)) (n 1 (by decide)) (n 3 (by decide)) (n 4 (by decide)) e)
      refine wpAny_assign_Tuple (items := #[x', y']) rm.handled ⟨_, T2, rfl, _, rfl⟩ rfl rfl fun h3 he3 => ?_
      have K3 : ∀ (b : Addr) (o : Obj), h2.get? b = some o → h3.get? b = some o := fun b o e => he3 b o (Nat.ne_of_lt (Heap.lt_size e)) e
      have ns3 : h3.Ns C m := ns.at' fun o e => K3 _ o (K2 _ o (fun j hj => (nCj j hj).symm) e)
      show wpAny _ A (assignInOrder [assign (.Name (Str.ofString x) px) _, assign (.Name (Str.ofString y) py) _] [x', y']) _ _ _
      refine assignInOrder_cons (PySem.wpAny_assign_Name (wpAny_storeName_local (lookup_relabel_local hx) ns3 (fun h4 hn4 hs4 => ?_) (by simp [compEnvC, relabel, hkind])))
      refine assignInOrder_cons (PySem.wpAny_assign_Name (wpAny_storeName_local (lookup_relabel_local hy) hn4 (fun h5 hn5 hs5 => ?_) (by simp [compEnvC, relabel, hkind])))
      refine wpAny_pure ?_
      have K5 : ∀ (b : Addr) (o : Obj), b ≠ C → (∀ j : Nat, j < 5 → b ≠ I + j) → s'.heap.get? b = some o → h5.get? b = some o := fun b o nc nj e => hs5.extBut b o nc (hs4.extBut b o nc (K3 b o (K2 b o nj e)))
      have Z5 : ZipAt h5 I l1 l2 xs ys (k + 1) .none := Z2.ext fun b o hb e => by
        have nc : b ≠ C := by
          rcases hb with rfl | rfl | hb
          · exact nl1 _ IleC
          · exact nl2 _ IleC
          · rw [eC]; exact Nat.ne_of_lt (Nat.lt_succ_of_lt hb.2)
        exact hs5.extBut b o nc (hs4.extBut b o nc (K3 b o e))
      have i5 : Inv c.h₀ W₂ st₀ h5 := iv.but fun b o no e => K5 b o (fun z => no (z ▸ oC)) (fun j hj z => no (z ▸ oI j hj)) e
      have t5 : Step W₁ s₁.heap W₂ h5 := t.but fun b o p e e' => K5 b o (fun z => by rw [z, hC0] at e; cases e) (fun j hj z => by rw [z, old0 _ (IleJ j)] at e; cases e) e'
      refine wpAny_mono (hd A _ ⟨h5, _, _, _, _⟩ W₂ _ st₀ st₃ u rm (comp_env2 (eo₁.step t5) ok hkind hx hy oC.2 hn5 (by rw [if_neg hxy, if_pos rfl]) (by rw [if_pos rfl]) ((rx.mono t5.le)) (ry.mono t5.le)) i5 q₄) (fun w' s₄ ⟨W₃, i₃, y₃, z₄, r₃⟩ => ?_) fun _ _ f => f.elim
      refine lD.elim fun nn hob0 => ?_
      have hob : h5.get? D = _ := K5 D _ nCD (fun j hj => (nDj j hj).symm) hob0
      refine x3_2 hn5 fun oc es ep hoc hrest => ?_
      have lD₃ : s₄.heap.PlainList D items := ⟨nn, y₃.keep D _ hob oD.2⟩
      have hlenI : res.length = items.size := by simpa using rr.length
      refine wpAny_list_append_plain (hsz := by rw [← hlenI, hrl]; exact lineOf (Nat.le_trans (Nat.le_of_lt hlt) hlen.2)) lD₃ fun h₆ hl₆ hs₆ => ?_
      have oD₃ := oD.step y₃ hob
      have oC₃ := oC.step y₃ hoc
      refine ⟨us.length - (k + 1), by rw [num]; exact Nat.sub_lt_sub_left hlt (Nat.lt_succ_self _), W₃, st₃, k + 1, res ++ [u], rest', _, _, rfl, hlt, ?_, i₃.turn hs₆ oD₃.1 oD₃.2, (t5.trans y₃).turn hs₆ hD0, ⟨z₄.gens.trans S.gens, z₄.os.trans S.os⟩, fun j hj => let ⟨o, e⟩ := Z5.five j hj; (oI j hj).step y₃ e, oD₃, oC₃, hl₆,
        by rw [Array.toList_push]; exact (rr.mono y₃.le).snoc r₃, ⟨oc, es, ep, hs₆.extBut _ _ nCD.symm (y₃.keep _ _ hoc oC.2), hrest⟩, e2 ▸ q₅, by rw [hout, ← e1]; simp, by simp [hrl]⟩
      refine Z5.ext fun b o hb e => hs₆.extBut b o ?_ ?_
      · rcases hb with rfl | rfl | hb
        · exact nl1 _ IleD
        · exact nl2 _ IleD
        · rw [eD]; exact Nat.ne_of_lt hb.2
      · have fzd : ∀ (l : Addr) (p : Obj), W₁.fz l = some p → h5.get? l = some o → s₄.heap.get? l = some o := fun l p hf hl => by
          have f2 := t5.fz _ _ hf
          rw [i5.froz _ _ f2] at hl
          rw [← hl]; exact i₃.froz _ _ (y₃.fz _ _ f2)
        rcases hb with rfl | rfl | hb
        · exact fzd _ _ f e
        · exact fzd _ _ f' e
        · refine (Nat.exists_eq_add_of_le hb.1).elim fun j ej => ?_
          exact y₃.keep _ o e (ej ▸ (oI j (by exact Nat.lt_of_add_lt_add_left (ej ▸ hb.2))).2)
  exact codeAny_compStart_list loop (wpAny_pyIter_zip Z₁.z loop)
theorem e_compZ {elt : Expr} {x y : String} {zp px py tp zpos pos : Pos} {tk : Nat} {args : List Expr} {free : List String} {a : Den (List V)} {d : Den V} (g : GlobBlt c "zip" (.type "zip")) (ha : EsSound c lv sc args a) (hd : ESound c lv scope elt d) (ok : compOk sc scope free = true) (hkind : scope.kind = .function)
    (hx : scope.names.lookup (Str.ofString x) = some .local) (hy : scope.names.lookup (Str.ofString y) = some .local) (hxy : Str.ofString x ≠ Str.ofString y) (hz : sc.names.lookup (Str.ofString "zip") = some .globalImplicit) (hns : NoStar args)
    (hp : ∀ env, (backTo zpos (starEach args env)).any (·.1) = false)
    (hs : ∀ env v, foldedSetIterable (.Call (.Name "zip" zp) args [] zpos) env v = pure v) :
    ESound c lv sc (.ListComp elt [⟨.Tuple [.Name (Str.ofString x) px, .Name (Str.ofString y) py] tk tp, .Call (.Name "zip" zp) args [] zpos, [], 0⟩] scope pos) (dCompZ free x y a d) := by
  intro A env s W ρ st st' v rm eo iv q
  refine hide fun G kG => ?_
  have ok := CompOk.of ok
  refine bindP q fun l st₁ q₁ q => ?_
  dsimp only at q
  split at q
  rotate_left
  · cases q
  rename_i us vs
  split at q
  rotate_left
  · cases q
  rename_i hlen
  refine mapP q fun out st₂ q₃ q => ?_
  cases q
  refine kG ?_
  rw [eval_ListComp]
  refine wpAny_comprehension_free (use := none) rfl (hs env) (comp_clos eo ok) hkind ok.names ?_
  show wpAny c.M A (eval (.Call (.Name "zip" zp) args [] zpos) env) _ _ s
  refine wpAny_Call_Name_kw (name_blt eo iv g hz ?_ (by decide +kernel))
  refine PySem.callWith_type (hp env) (args_then rm eo iv ha q₁ (hns env zpos) fun W₁ vs' s₁ i₁ y₁ z₁ r₁ => ?_)
  obtain ⟨_, _, rfl, ra, rb⟩ := vs_two r₁
  obtain ⟨l1, o1, xs, n1, rfl, f, cd, rs⟩ := lst_rel ra
  obtain ⟨l2, o2, ys, n2, rfl, f', cd', rs'⟩ := tup_rel rb
  refine call_zip (s := s₁) ⟨o1, i₁.froz _ _ f, cd.cls, n1, cd.data⟩ ⟨o2, i₁.froz _ _ f', cd'.cls, n2, cd'.data⟩ fun hz Z hsz kz => ?_
  refine wpAny_pyIter_zip Z.z ?_
  exact compZ_core hd ok hkind hx hy hxy rm (eo.step y₁) i₁ rfl f f' rs rs' hlen q₃ Z hsz kz (comp_fin y₁ z₁)
end
end Mine
namespace Mine
/-! [one for row in rows for one in row if one is not None], where every one is None -/
noncomputable def rowsNone (st : St) (rows : List V) : Bool := rows.all fun v => match v with
  | .ref i => match st[i]? with
    | some (.lst vs) => vs.all fun u => match u with | .none => true | _ => false
    | _ => false
  | _ => false
noncomputable def dComp2 (a : Den V) : Den V := fun ρ st => (a ρ st).bind fun p => match p.1 with
  | .lst rows => if rowsNone p.2 rows then some (.lst [], p.2) else none
  | _ => none
section
variable {c : Cx} {lv : Nat} {sc scope : Scope}
noncomputable abbrev gen0 (row : Str) (p : Pos) (iter : Expr) : Comprehension := ⟨.Name row p, iter, [], 0⟩
noncomputable abbrev gen1 (row one : Str) (p₁ p₂ p₃ p₄ p₅ : Pos) (n : Nat) : Comprehension := ⟨.Name one p₁, .Name row p₂, [.Compare (.Name one p₃) [.IsNot] [.Constant .none n p₄] p₅], 0⟩
theorem turn0 (elt iter : Expr) (row : Str) (p : Pos) (g : Comprehension) (scope : Scope) (pos : Pos) (it acc : Value) (env : Env) (hg : g.is_async = 0) :
    compTurn (.ListComp elt [gen0 row p iter, g] scope pos) 0 it acc env = (do
      standAt iter.pos
      match ← pyNext it with
      | none => pure (.done .next)
      | some v =>
        letOwnedTupleGo (.Name row p) it v
        assign (.Name row p) env v
        let x ← eval g.iter env
        standAt g.iter.pos
        let x ← foldedSetIterable g.iter env x
        let _ ← runOwn (.compStart (.ListComp elt [gen0 row p iter, g] scope pos) 1 (← holding [x] (pyIter x)) acc env) env
        again (.compLoop (.ListComp elt [gen0 row p iter, g] scope pos) 0 it acc env)) := by
  ((obtain ⟨t, i, fs, a⟩ := g); try clear g)
  subst hg
  rfl
theorem turn1 (elt : Expr) (g : Comprehension) (row one : Str) (p₁ p₂ p₃ p₄ p₅ : Pos) (n : Nat) (scope : Scope) (pos : Pos) (it acc : Value) (env : Env) :
    compTurn (.ListComp elt [g, gen1 row one p₁ p₂ p₃ p₄ p₅ n] scope pos) 1 it acc env = (do
      standAt p₂
      match ← pyNext it with
      | none => pure (.done .next)
      | some v =>
        letOwnedTupleGo (.Name one p₁) it v
        assign (.Name one p₁) env v
        let mut ok := true
        for c in [Expr.Compare (.Name one p₃) [.IsNot] [.Constant .none n p₄] p₅] do
          if ok then ok ← isTrue c env (eval c env)
        if ok then
          (do let _ ← call (.builtin "list.append") [acc, ← eval elt env])
        again (.compLoop (.ListComp elt [g, gen1 row one p₁ p₂ p₃ p₄ p₅ n] scope pos) 1 it acc env)) := by rfl
theorem inner_none {A : Around} {env : Env} {elt : Expr} {g : Comprehension} {row one : Str} {p₁ p₂ p₃ p₄ p₅ pos : Pos} {n : Nat} {scope : Scope} {acc : Value} {I a : Addr} {items : Array Value} {R : Result → Shared → Prop} (hh : A.handled = none) (hk : env.scope.kind = .function) (ho : env.kindOf one = some .local) (hd : (one == ("__debug__" : Str)) = false)
    (hn : ∀ v ∈ items, v = Value.none) (nIC : I ≠ env.locals) (naC : a ≠ env.locals) (naI : a ≠ I) {s : Shared} {m : Str → Option Value} (it : s.heap.IsListIter I a 0) (hl : s.heap.IsList a items) (ns : s.heap.Ns env.locals m)
    (h : ∀ s' m', s'.heap.Ns env.locals m' → Same s s' → (∀ b o, b ≠ I → b ≠ env.locals → s.heap.get? b = some o → s'.heap.get? b = some o) → R (.ok .next) s') :
    codeAny c.M A (.compLoop (.ListComp elt [g, gen1 row one p₁ p₂ p₃ p₄ p₅ n] scope pos) 1 (.ref I) acc env) R s := by
  refine codeAny_loop rfl (fun k s' => ∃ i m', k = items.size - i ∧ i ≤ items.size ∧ s'.heap.IsListIter I a i ∧ s'.heap.IsList a items ∧ s'.heap.Ns env.locals m' ∧ Same s s' ∧ ∀ b o, b ≠ I → b ≠ env.locals → s.heap.get? b = some o → s'.heap.get? b = some o) (fun k s' hI => ?_) items.size
    ⟨0, m, rfl, Nat.zero_le _, it, hl, ns, Same.refl _, fun _ _ _ _ e => e⟩
  ((first | refine x2_7 hI fun i m' eE120 hi it hl ns S K => ?_ | obtain ⟨i, m', eE120, hi, it, hl, ns, S, K⟩ := hI); try clear hI; subst eE120)
  show wpAny _ A ((compTurn (.ListComp elt [g, gen1 row one p₁ p₂ p₃ p₄ p₅ n] scope pos) 1 (.ref I) acc env).onRaise (fun x => do noteFrame x env; theTreesLotGoes x)) _ _ s'
  refine wpAny_noted ?_
  rw [turn1]
  refine wpAny_bind (wpAny_standAt (wpAny_bind ?_))
  by_cases hend : i = items.size
  · refine wpAny_pyNext_list_end hh it hl (by rw [Array.getElem?_eq_none_iff, hend]; exact Nat.le_refl _) fun h' hx => ?_
    exact wpAny_pure (h _ m' (ns.at' fun o e => hx _ o nIC.symm e) ⟨S.gens, S.os⟩ fun b o b1 b2 e => hx b o b1 (K b o b1 b2 e))
  · have hlt : i < items.size := Nat.lt_of_le_of_ne hi hend
    have hv : items[i] = Value.none := hn _ (Array.getElem_mem hlt)
    refine wpAny_pyNext_list_item it hl (x := Value.none) (by rw [Array.getElem?_eq_getElem hlt, hv]) fun h1 it1 hs1 => ?_
    refine wpAny_bind (wpAny_of_eq (show letOwnedTupleGo (.Name one p₁) (.ref I) Value.none = pure () from rfl) ?_)
    refine wpAny_bind (PySem.wpAny_assign_Name (wpAny_storeName_local ho (ns.sameBut hs1 nIC.symm) (fun h2 hn2 hs2 => ?_) (by rw [hk]; rfl)))
    refine wpAny_bind (wpAny_tests_one (wpAny_isTrue_Compare1 (wpAny_Name (wpAny_loadName_local hk ho hn2 (if_pos rfl) (wpAny_Constant_none (isNot_none (wpAny_truthy_bool ?_)))) hd) rfl))
    refine wpAny_pure ⟨rfl, items.size - (i + 1), by lia, i + 1, _, rfl, hlt, ?_, ?_, hn2, ⟨S.gens, S.os⟩, fun b o b1 b2 e => hs2.extBut b o b2 (hs1.extBut b o b1 (K b o b1 b2 e))⟩
    · exact it1.extBut hs2.extBut nIC
    · exact (hl.extBut hs1.extBut naI).extBut hs2.extBut naC
theorem start1 {A : Around} {env : Env} {elt : Expr} {g : Comprehension} {row one : Str} {p₁ p₂ p₃ p₄ p₅ pos : Pos} {n : Nat} {scope : Scope} {acc it : Value} {R : Result → Shared → Prop} {s : Shared}
    (h0 : codeAny c.M A (.compLoop (.ListComp elt [g, gen1 row one p₁ p₂ p₃ p₄ p₅ n] scope pos) 1 it acc env) R s)
    (h : wpAny c.M A (pyIter it) (fun it' s' => codeAny c.M A (.compLoop (.ListComp elt [g, gen1 row one p₁ p₂ p₃ p₄ p₅ n] scope pos) 1 it' acc env) R s') (notedBy c.M A env fun x s' => R (.error x) s') s) :
    codeAny c.M A (.compStart (.ListComp elt [g, gen1 row one p₁ p₂ p₃ p₄ p₅ n] scope pos) 1 it acc env) R s := by
  refine codeAny_of_tree ?_
  show wpAny _ _ ((compStart (.ListComp elt [g, gen1 row one p₁ p₂ p₃ p₄ p₅ n] scope pos) 1 it acc env).onRaise (fun x => do noteFrame x env; standAt theWindowsPlace)) _ _ s
  refine wpAny_notedAt ?_
  unfold compStart
  show wpAny _ _ (ask >>= _) _ _ s
  refine wpAny_bind (wpAny_askSetting (wpAny_ite ?_))
  split
  · first
      | exact wpAny_bind (wpAny_pure (wpAny_pure (And.intro rfl h0)))
      | exact wpAny_pure (And.intro rfl h0)
  · first
      | exact wpAny_bind (wpAny_rule (wpAny_bind (wpAny_standAt (wpAny_bind (wpAny_mono h (fun it' s' h' => wpAny_pure (And.intro rfl h')) fun _ _ x => x)))))
      | (refine wpAny_bind (wpAny_rule ?_); show wpAny _ _ (standAt p₂ >>= _) _ _ s; exact wpAny_bind (wpAny_standAt (wpAny_bind (wpAny_mono h (fun it' s' h' => wpAny_pure (And.intro rfl h')) fun _ _ x => x))))
theorem rows_cons {st : St} {v : V} {r : List V} (h : rowsNone st (v :: r) = true) : ∃ i vs, v = .ref i ∧ st[i]? = some (.lst vs) ∧ (∀ w ∈ vs, w = V.none) ∧ rowsNone st r = true := by
  unfold rowsNone at h
  rw [List.all_cons, Bool.and_eq_true] at h
  obtain ⟨hv, hrn⟩ := h
  split at hv
  rotate_left
  · cases hv
  split at hv
  rotate_left
  · cases hv
  rename_i vs hvs
  refine ⟨_, vs, rfl, hvs, fun w hw => ?_, hrn⟩
  have := List.all_eq_true.mp hv _ hw
  split at this
  · rfl
  · cases this
theorem live_none {h₀ : Heap} {W : Wd} {st : St} {h : Heap} {i : Nat} {a : Addr} {vs : List V} (x : Inv h₀ W st h) (hφ : W.φ[i]? = some a) (hs : st[i]? = some (.lst vs)) (hn : ∀ w ∈ vs, w = V.none) : ∃ items, h.IsList a items ∧ ∀ w ∈ items, w = Value.none := by
  obtain ⟨o, ho, m⟩ := x.live _ _ _ hφ hs
  cases m with
  | lst hc hd rs =>
    rename_i items nn
    refine ⟨items, ⟨o, ho, hc, nn, hd⟩, fun w hw => ?_⟩
    obtain ⟨j, hj, rfl⟩ := Array.mem_iff_getElem.mp hw
    have hjl : j < vs.length := by rw [rs.length, Array.length_toList]; exact hj
    obtain ⟨w', hw', rw'⟩ := rs.get (List.getElem?_eq_getElem hjl)
    rw [hn _ (List.getElem_mem hjl)] at rw'
    cases rw'
    rw [Array.getElem?_toList, Array.getElem?_eq_getElem hj] at hw'
    exact Option.some.inj hw'
inductive Comp2Inv (st' : St) (W₁ : Wd) (I C : Addr) (s₀ : Shared) (h₁ : Heap) (k : Nat) (s' : Shared) : Prop
  | mk (r : List V) (m : Str → Option Value) (num : k = r.length) (hrn : rowsNone st' r = true) (it : IterAt W₁ s'.heap I r) (ns : s'.heap.Ns C m) (S : Same s₀ s') (K : ∀ b o, b ≠ I → b ≠ C → h₁.get? b = some o → s'.heap.get? b = some o)
inductive InEnd (I C : Addr) (sx : Shared) (r : Result) (s' : Shared) : Prop
  | mk (m' : Str → Option Value) (e : r = .ok .next) (ns : s'.heap.Ns C m') (S : Same sx s') (K : ∀ b o, b ≠ I → b ≠ C → sx.heap.get? b = some o → s'.heap.get? b = some o)
theorem comp2_core {elt iter : Expr} {row one : String} {p₀ p₁ p₂ p₃ p₄ p₅ pos : Pos} {n : Nat} {A : Around} {env : Env} {s₁ : Shared} {W₁ : Wd} {st' : St} {u' : Value} {rows : List V} {E : Value → Shared → Prop} {RR : Value → Addr → Result → Shared → Prop}
    (ok : CompOk sc scope []) (hkind : scope.kind = .function) (hr : scope.names.lookup (Str.ofString row) = some .local) (ho : scope.names.lookup (Str.ofString one) = some .local)
    (hd : (Str.ofString row == ("__debug__" : Str)) = false) (hd' : (Str.ofString one == ("__debug__" : Str)) = false) (rm : Room A lv) (i₁ : Inv c.h₀ W₁ st' s₁.heap) (r₁ : VRel W₁ (.lst rows) u') (hrows : rowsNone st' rows = true) (hR : CompEnd c W₁ s₁ st' [] RR) :
    wpAny c.M A (pyIter u') (fun it s₂ => wpAny c.M A (newList []) (fun acc s₃ => wpAny c.M A (newFunctionEnv scope env.globals (clOf env scope.names []) [] env.qual none .none (some env)) (fun cenv s₄ =>
      codeAny c.M A (.compStart (.ListComp elt [gen0 (Str.ofString row) p₀ iter, gen1 (Str.ofString row) (Str.ofString one) p₁ p₂ p₃ p₄ p₅ n] scope pos) 0 it acc { cenv with scope := relabel scope env }) (RR acc cenv.locals) s₄) E s₃) E s₂) E s₁ := by
  refine iter_make i₁ r₁ (l := rows) rfl fun oI nf it => ?_
  refine wpAny_newObj_type (wpAny_newFunctionEnv ok.nocell (by intro y hy; simp at hy) (fun h₁ hns hsb => ?_) hkind)
  dsimp only at hns hsb ⊢
  generalize hI : s₁.heap.objs.size = I at it ⊢
  generalize hD : (s₁.heap.push oI).objs.size = D
  generalize hC : ((s₁.heap.push oI).push { cls := .type "list", dict := none, data := .seq ([] : List Value).toArray }).objs.size = C at hns hsb ⊢
  have eD : D = I + 1 := by rw [← hD, Heap.size_push, hI]
  have eC : C = I + 2 := by rw [← hC, Heap.size_push, Heap.size_push, hI]
  have hI0 : s₁.heap.get? I = none := by rw [← hI]; exact heap_out _
  have hD0 : s₁.heap.get? D = none := get_beyond (by rw [eD, hI]; exact Nat.le_succ _)
  have hC0 : s₁.heap.get? C = none := get_beyond (by rw [eC, hI]; exact Nat.le_add_right _ _)
  have nCI : I ≠ C := by rw [eC]; exact Nat.ne_of_lt (Nat.lt_add_of_pos_right (by decide))
  have nCD : D ≠ C := by rw [eC, eD]; exact Nat.ne_of_lt (Nat.lt_succ_self _)
  have nDI : I ≠ D := by rw [eD]; exact Nat.ne_of_lt (Nat.lt_succ_self _)
  have up : ∀ (b : Addr) (p : Obj), (s₁.heap.push oI).get? b = some p → h₁.get? b = some p := fun b p w => by
    refine hsb.extBut b p ?_ (Heap.get?_push_of_some _ (Heap.get?_push_of_some _ w))
    have := Heap.lt_size w
    rw [hD] at this
    rw [eC]; rw [eD] at this; exact Nat.ne_of_lt (Nat.lt_succ_of_lt this)
  have kp : ∀ (b : Addr) (p : Obj), s₁.heap.get? b = some p → h₁.get? b = some p := fun b p w => up b p (Heap.get?_push_of_some _ w)
  have gI : h₁.get? I = some oI := up _ _ (by rw [← hI]; exact Heap.get?_push_size _ nf)
  have gD : h₁.get? D = some { cls := .type "list", data := .seq #[] } := hsb.extBut D _ nCD (Heap.get?_push_of_some _ (by rw [← hD]; exact Heap.get?_push_size _ rfl))
  have it₁ : IterAt W₁ h₁ I rows := it.at (Wd.Le.refl _) (gI.trans (by rw [← hI]; exact (Heap.get?_push_size _ nf).symm))
  have ckind : (compEnvC scope (clOf env scope.names []) C env).scope.kind = .function := hkind
  have oI : Out W₁ I := i₁.out hI0
  have oC : Out W₁ C := i₁.out hC0
  have oD : Out W₁ D := i₁.out hD0
  have iK : ∀ h' : Heap, (∀ b o, b ≠ I → b ≠ C → h₁.get? b = some o → h'.get? b = some o) → Inv c.h₀ W₁ st' h' := fun h' K => (i₁.grow kp).but fun b o no e => K b o (fun z => no (z ▸ oI)) (fun z => no (z ▸ oC)) e
  have tK : ∀ h' : Heap, (∀ b o, b ≠ I → b ≠ C → h₁.get? b = some o → h'.get? b = some o) → Step W₁ s₁.heap W₁ h' := fun h' K => (Step.grow kp).but fun b o p e e' => K b o (fun z => by rw [z, hI0] at e; cases e) (fun z => by rw [z, hC0] at e; cases e) e'
  have loop : codeAny c.M A (.compLoop (.ListComp elt [gen0 (Str.ofString row) p₀ iter, gen1 (Str.ofString row) (Str.ofString one) p₁ p₂ p₃ p₄ p₅ n] scope pos) 0 (.ref I) (.ref D) (compEnvC scope (clOf env scope.names []) C env)) (RR (.ref D) C) ⟨h₁, s₁.gens, s₁.drawn, s₁.toks + ([] : List (Str × Value)).length, s₁.os⟩ := by
    refine codeAny_loop rfl (Comp2Inv st' W₁ I C s₁ h₁) (fun k s' hinv => ?_) rows.length ⟨rows, _, rfl, hrows, it₁, hns, ⟨rfl, rfl⟩, fun _ _ _ _ e => e⟩
    obtain ⟨r, m, num, hrn, it, ns, S, K⟩ := hinv
    show wpAny _ A ((compTurn (.ListComp elt [gen0 (Str.ofString row) p₀ iter, gen1 (Str.ofString row) (Str.ofString one) p₁ p₂ p₃ p₄ p₅ n] scope pos) 0 (.ref I) (.ref D) (compEnvC scope (clOf env scope.names []) C env)).onRaise (fun x => do noteFrame x (compEnvC scope (clOf env scope.names []) C env); theTreesLotGoes x)) _ _ s'
    refine wpAny_noted ?_
    rw [turn0 _ _ _ _ _ _ _ _ _ _ rfl]
    refine wpAny_bind (wpAny_standAt (wpAny_bind ?_))
    cases r with
    | nil =>
      refine iter_end (iK _ K) rm.handled it fun h' hx => wpAny_pure ?_
      have K' : ∀ b o, b ≠ I → b ≠ C → h₁.get? b = some o → h'.get? b = some o := fun b o b1 b2 e => hx b o b1 (K b o b1 b2 e)
      exact hR D C W₁ _ m #[] _ (iK _ K') (tK _ K') ⟨S.gens, S.os⟩ (ns.at' fun o e => hx _ o nCI.symm e) (K' D _ nDI.symm nCD gD) .nil oD oC hD0 hC0 nCD
    | cons v r =>
      refine x2_4 (rows_cons hrn) fun i vs ev hvs hv hrn => ?_
      refine iter_next (iK _ K) it oI.1 fun v' h' tk rv hs' it' => ?_
      refine x1_2 (ref_rel (ev ▸ rv)) fun ad ev' hφ => ?_
      refine wpAny_bind (wpAny_of_eq (show letOwnedTupleGo (.Name (Str.ofString row) p₀) (.ref I) v' = pure () from rfl) ?_)
      refine wpAny_bind (PySem.wpAny_assign_Name (wpAny_storeName_local (lookup_relabel_local hr) (ns.sameBut hs' nCI.symm) (fun h2 hn2 hs2 => ?_) (by rw [ckind]; rfl)))
      refine wpAny_bind (wpAny_Name (wpAny_loadName_local ckind (lookup_relabel_local hr) hn2 (if_pos rfl) ?_) hd)
      refine wpAny_bind (wpAny_standAt (wpAny_bind (wpAny_of_eq (show foldedSetIterable (.Name (Str.ofString row) p₂) _ v' = pure v' from rfl) ?_)))
      have K2 : ∀ b o, b ≠ I → b ≠ C → h₁.get? b = some o → h2.get? b = some o := fun b o b1 b2 e => hs2.extBut b o b2 (hs'.extBut b o b1 (K b o b1 b2 e))
      have it2 : IterAt W₁ h2 I r := it'.at (Wd.Le.refl _) (hs2.2 _ nCI)
      refine x1_2 (live_none (iK _ K2) hφ hvs hv) fun items hl2 hnone => ?_
      have nadI : ad ≠ I := fun z => oI.2 (z ▸ List.mem_of_getElem? hφ)
      have nadC : ad ≠ C := fun z => oC.2 (z ▸ List.mem_of_getElem? hφ)
      rw [ev']
      refine wpAny_bind (wpAny_holding (wpAny_pyIter_list hl2 ?_))
      have nC1 : h2.objs.size ≠ C := hn2.elim fun o e => e.elim fun _ e => e.elim fun _ e => (Nat.ne_of_lt (Heap.lt_size e.1)).symm
      have nI1 : I ≠ h2.objs.size := it2.some.elim fun o e => Nat.ne_of_lt (Heap.lt_size e)
      have nad1 : ad ≠ h2.objs.size := hl2.elim fun o e => Nat.ne_of_lt (Heap.lt_size e.1)
      have i1L : (h2.push { cls := .type "list_iterator", data := .fields #[.ref ad, .int 0 0] }).IsListIter h2.objs.size ad 0 := ⟨_, Heap.get?_push_size _ rfl, rfl, rfl⟩
      have fin : ∀ (sx : Shared) , sx.heap = h2.push { cls := .type "list_iterator", data := .fields #[.ref ad, .int 0 0] } → codeAny c.M A (.compStart (.ListComp elt [gen0 (Str.ofString row) p₀ iter, gen1 (Str.ofString row) (Str.ofString one) p₁ p₂ p₃ p₄ p₅ n] scope pos) 1 (.ref h2.objs.size) (.ref D) (compEnvC scope (clOf env scope.names []) C env))
          (InEnd h2.objs.size C sx) sx := fun sx hsx => by
        have one' := inner_none (c := c) (elt := elt) (g := gen0 (Str.ofString row) p₀ iter) (row := Str.ofString row) (one := Str.ofString one) (p₁ := p₁) (p₂ := p₂) (p₃ := p₃) (p₄ := p₄) (p₅ := p₅) (n := n) (scope := scope) (pos := pos) (acc := .ref D) (A := A) (env := compEnvC scope (clOf env scope.names []) C env) (I := h2.objs.size) (a := ad) (items := items) (s := sx)
          (m := fun x => if x = Str.ofString row then some v' else m x) (R := InEnd h2.objs.size C sx) rm.handled ckind (lookup_relabel_local ho) hd' hnone nC1 nadC nad1 (by rw [hsx]; exact i1L) (by rw [hsx]; exact hl2.push _) (by rw [hsx]; exact hn2.at' fun o e => Heap.get?_push_of_some _ e)
          fun s' m' ns' S' K' => ⟨m', rfl, ns', S', K'⟩
        exact start1 one' (wpAny_pyIter_listiter (by rw [hsx]; exact i1L) one')
      refine wpAny_bind (wpAny_runOwn (codeAny_mono (fin _ rfl) fun rr s4 ⟨m', e, ns', S', K'⟩ => ?_))
      rw [e]
      refine wpAny_pure ⟨rfl, r.length, by rw [num]; exact Nat.lt_succ_self _, r, m', rfl, hrn, ?_, ns', ⟨S'.gens.trans S.gens, S'.os.trans S.os⟩, fun b o b1 b2 e => ?_⟩
      · refine it2.some.elim fun oi hoi => ?_
        exact it2.at (Wd.Le.refl _) ((K' I oi nI1 nCI (Heap.get?_push_of_some _ hoi)).trans hoi.symm)
      · have e2 := K2 b o b1 b2 e
        exact K' b o (Nat.ne_of_lt (Heap.lt_size e2)) b2 (Heap.get?_push_of_some _ e2)
  exact codeAny_compStart_list loop (iter_self (c := c) (s := ⟨h₁, s₁.gens, s₁.drawn, s₁.toks + ([] : List (Str × Value)).length, s₁.os⟩) it₁ loop)
theorem e_comp2 {elt iter : Expr} {row one : String} {p₀ p₁ p₂ p₃ p₄ p₅ pos : Pos} {n : Nat} {a : Den V} (ha : ESound c lv sc iter a) (ok : compOk sc scope [] = true) (hkind : scope.kind = .function) (hr : scope.names.lookup (Str.ofString row) = some .local) (ho : scope.names.lookup (Str.ofString one) = some .local)
    (hs : ∀ env v, foldedSetIterable iter env v = pure v) (hd : (Str.ofString row == ("__debug__" : Str)) = false) (hd' : (Str.ofString one == ("__debug__" : Str)) = false) :
    ESound c lv sc (.ListComp elt [gen0 (Str.ofString row) p₀ iter, gen1 (Str.ofString row) (Str.ofString one) p₁ p₂ p₃ p₄ p₅ n] scope pos) (dComp2 a) := by
  intro A env s W ρ st st' v rm eo iv q
  refine hide fun G kG => ?_
  have ok := CompOk.of ok
  refine bindP q fun u st₁ q₁ q => ?_
  dsimp only at q
  split at q
  rotate_left
  · cases q
  rename_i rows
  split at q
  rotate_left
  · cases q
  rename_i hrows
  cases q
  refine kG ?_
  rw [eval_ListComp]
  refine wpAny_comprehension_free (use := none) rfl (hs env) (comp_clos eo ok) hkind ok.names ((ha A env s W ρ st _ _ rm eo iv q₁).to fun W₁ u' s₁ i₁ y₁ z₁ r₁ => ?_)
  exact comp2_core ok hkind hr ho hd hd' rm i₁ r₁ hrows (comp_fin y₁ z₁)
end
end Mine
namespace Mine
noncomputable def sNone : SDen := fun _ _ => none
theorem ss_none {c : Cx} {lv : Nat} {sc : Scope} {ss : List Stmt} : SSound c lv sc ss sNone := by
  intro A env e s W ρ ρ' st st' fl rm S iv t z q
  cases q
structure FnIs (c : Cx) (f : Addr) (F : Fn) : Prop where
  is : ∃ fd, FnFacts c f fd F.2.1 ∧ fd.params = F.1 ∧ fd.scope = F.2.2 ∧ fd.defaults = .none
noncomputable def plainParams (P : Arguments) (names : List String) : Bool :=
  P.posonlyargs.isEmpty && (P.args.map (·.arg) == names.map Str.ofString) && P.vararg.isNone && P.kwonlyargs.isEmpty && P.kwarg.isNone
noncomputable def paramsIn (S : Scope) (names : List String) : Bool := names.all fun x => S.names.lookup (Str.ofString x) == some .local || S.names.lookup (Str.ofString x) == some .cell
noncomputable def nodupB : List Str → Bool
  | [] => true
  | x :: r => !r.contains x && nodupB r
theorem nodup_of : ∀ {l : List Str}, nodupB l = true → l.Nodup
  | [], _ => List.nodup_nil
  | x :: r, h => by
    unfold nodupB at h
    rw [Bool.and_eq_true] at h
    rw [List.nodup_cons]
    exact ⟨fun m => by have := h.1; simp [m] at this, nodup_of h.2⟩
theorem lookup_zip : ∀ {names : List Str} {vals : List Value} {n : Str}, names.Nodup → vals.length = names.length → n ∈ names → (((names.zip vals).lookup n).map (n, ·)) = (names.zip vals).find? (·.1 == n) ∧ ((names.zip vals).lookup n).isSome = true
  | x :: r, v :: vs, n, nd, hl, hm => by
    rw [List.nodup_cons] at nd
    rw [List.zip_cons_cons, List.lookup_cons, List.find?_cons]
    by_cases e : n = x
    · subst e; simp
    · have e1 : (n == x) = false := beq_eq_false_iff_ne.mpr e
      have e2 : (x == n) = false := beq_eq_false_iff_ne.mpr (Ne.symm e)
      simp only [e1, e2]
      exact lookup_zip nd.2 (by simpa using hl) ((List.mem_cons.mp hm).resolve_left e)
theorem filter_zip {names : List Str} : ∀ {pre : List Str} {pv : List Value} {rest : List Str} {rv : List Value}, names = pre ++ rest → names.Nodup → pv.length = pre.length → rv.length = rest.length →
    rest.filterMap (fun n => ((names.zip (pv ++ rv)).lookup n).map (n, ·)) = rest.zip rv := by
  intro pre pv rest
  induction rest generalizing pre pv with
  | nil => intro rv _ _ _ hr; rfl
  | cons x r ih =>
    intro rv e nd hp hr
    cases rv with
    | nil => cases hr
    | cons v vs =>
      have hx : (names.zip (pv ++ v :: vs)).lookup x = some v := by
        subst e
        clear ih
        induction pre generalizing pv with
        | nil => cases pv with
          | nil => simp
          | cons _ _ => cases hp
        | cons y pre ih => cases pv with
          | nil => cases hp
          | cons w pv =>
            rw [List.cons_append, List.nodup_cons] at nd
            have : (x == y) = false := beq_eq_false_iff_ne.mpr fun z => nd.1 (by rw [← z]; simp)
            rw [List.cons_append, List.cons_append, List.zip_cons_cons, List.lookup_cons, this]
            exact ih (by simpa using hp) nd.2
      rw [List.filterMap_cons, hx]
      simp only [Option.map_some, List.zip_cons_cons]
      congr 1
      have := ih (pre := pre ++ [x]) (pv := pv ++ [v]) (rv := vs) (by rw [e]; simp) nd (by simp [hp]) (by simpa using hr)
      rw [List.append_assoc] at this
      exact this
theorem bind_plain {fd : FuncData} {names : List Str} {vals : List Value} (h1 : fd.params.posonlyargs = []) (h2 : fd.params.args.map (·.arg) = names) (h3 : fd.params.vararg = none) (h4 : fd.params.kwonlyargs = []) (h5 : fd.params.kwarg = none) (hd : fd.defaults = .none) (hl : vals.length = names.length) (nd : names.Nodup) :
    bindArgs fd ⟨vals, []⟩ = pure (names.zip vals) := by
  have e0 : names.filterMap (fun n => ((names.zip vals).lookup n).map (n, ·)) = names.zip vals := filter_zip (pre := []) (pv := []) rfl nd rfl hl
  have e1 : (names.filter fun n => ((names.zip vals).lookup n).isNone) = [] := by
    rw [List.filter_eq_nil_iff]
    intro n hn
    have := (lookup_zip (vals := vals) nd hl hn).2
    simp [Option.isNone_iff_eq_none, Option.isSome_iff_ne_none.mp this]
  unfold bindArgs
  simp only [h1, h2, h3, h4, h5, hd, List.map_nil, List.nil_append, List.append_nil, List.forIn_nil, hl]
  have e2 : seqItems? Value.none = pure none := rfl
  rw [e2]
  simp only [pure_bind, Option.getD_none]
  simp [e0, e1]
theorem fn_plain {c : Cx} {lv k : Nat} {f : Addr} {F : Fn} {names : List String} {d : SDen} (H : FnIs c f F) (hp : plainParams F.1 names = true) (hi : paramsIn F.2.2 names = true) (hn : nodupB (names.map Str.ofString) = true) (hk : names.length = k) (hs : SSound c lv F.2.2 F.2.1 d) : FSound c (lv + 1) f (runBody names [] k d) := by
  ((first | refine x1_4 H.is fun fd facts e1 e2 e3 => ?_ | obtain ⟨fd, facts, e1, e2, e3⟩ := H.is))
  unfold plainParams at hp
  simp only [Bool.and_eq_true, beq_iff_eq, List.isEmpty_iff, Option.isNone_iff_eq_none] at hp
  ((first | refine x0_2 hp fun xE123 p5 => ?_ | obtain ⟨xE123, p5⟩ := hp); try clear hp; ((first | refine x0_2 xE123 fun xE124 p4 => ?_ | obtain ⟨xE124, p4⟩ := xE123); try clear xE123; ((first | refine x0_2 xE124 fun xE125 p3 => ?_ | obtain ⟨xE125, p3⟩ := xE124); try clear xE124; ((first | refine x0_2 xE125 fun p1 p2 => ?_ | obtain ⟨p1, p2⟩ := xE125); try clear xE125))))
  have nd := nodup_of hn
  refine f_body (ds := []) (ds' := []) facts (fun _ _ => .nil) (fun s vs _ hl => BindsTo.of_eq ?_) nd (fun x hx => ?_) (by rw [hk]; simp) (e2 ▸ hs)
  · rw [List.append_nil]
    exact bind_plain (e1 ▸ p1) (e1 ▸ p2) (e1 ▸ p3) (e1 ▸ p4) (e1 ▸ p5) e3 (by rw [List.length_map, hk]; exact hl) nd
  · unfold paramsIn at hi
    have := List.all_eq_true.mp hi x hx
    rw [Bool.or_eq_true, beq_iff_eq, beq_iff_eq] at this
    rw [e2]; exact this
theorem meth1 {c : Cx} {x : String} {C₀ f : Addr} {d : List V → St → Option (V × St)} {lf : Nat} {F : Fn} (hm : methOk c.K C₀ x f = true) (hf : FSound c lf f d) (hF : FnIs c f F) :
    ∀ C d', (if C = C₀ then some d else none) = some d' → ∃ f, methOk c.K C x f = true ∧ FSound c lf f d' ∧ ∃ o fd, c.h₀.get? f = some o ∧ o.data = .func fd := by
  intro C d' h
  split at h
  · rename_i e; subst e; cases h
    ((first | refine x1_2 hF.is fun fd facts _ => ?_ | obtain ⟨fd, facts, _⟩ := hF.is))
    ((first | refine x1_2 facts.at_ fun o ho hd => ?_ | obtain ⟨o, ho, hd⟩ := facts.at_))
    exact ⟨f, hm, hf, o, fd, ho, hd⟩
  · cases h
noncomputable def dOr (a b : Addr → Option (List V → St → Option (V × St))) : Addr → Option (List V → St → Option (V × St)) := fun C => match a C with
  | some d => some d
  | none => b C
theorem methOr {c : Cx} {x : String} {lf : Nat} {a b : Addr → Option (List V → St → Option (V × St))} (ha : ∀ C d', a C = some d' → ∃ f, methOk c.K C x f = true ∧ FSound c lf f d' ∧ ∃ o fd, c.h₀.get? f = some o ∧ o.data = .func fd)
    (hb : ∀ C d', b C = some d' → ∃ f, methOk c.K C x f = true ∧ FSound c lf f d' ∧ ∃ o fd, c.h₀.get? f = some o ∧ o.data = .func fd) : ∀ C d', dOr a b C = some d' → ∃ f, methOk c.K C x f = true ∧ FSound c lf f d' ∧ ∃ o fd, c.h₀.get? f = some o ∧ o.data = .func fd := by
  intro C d' h
  unfold dOr at h
  split at h
  · rename_i d e; cases h; exact ha C _ e
  · exact hb C d' h
theorem globFn {c : Cx} {x : Str} {f : Addr} {F : Fn} (g : GlobRef c x f) (h : FnIs c f F) : GlobFn c x f := by
  ((first | refine x1_2 h.is fun fd facts _ => ?_ | obtain ⟨fd, facts, _⟩ := h.is))
  ((first | refine x1_2 facts.at_ fun o ho hd => ?_ | obtain ⟨o, ho, hd⟩ := facts.at_))
  exact ⟨g, o, fd, ho, hd⟩
theorem noStar1 {e : Expr} {r : List Expr} (he : ∀ env, ∃ x rest, starEach (e :: r) env = (false, x) :: rest) : NoStar (e :: r) := fun env pos => .inr (by
  ((first | refine x2_1 (he env) fun x rest h => ?_ | obtain ⟨x, rest, h⟩ := (he env)))
  rw [h]
  cases rest <;> exact ⟨_, _, rfl⟩)
theorem noStar0 : NoStar [] := fun _ _ => .inl rfl
end Mine
namespace Mine
noncomputable def dfltV : List V := [.str "baseline", .int 75, .none, .int 0, .bool false, .none, .int 8, .str "ycc"]
structure FnDef (c : Cx) (f : Addr) (F : Fn) : Prop where
  is : ∃ fd T o items n, FnFacts c f fd F.2.1 ∧ fd.params = F.1 ∧ fd.scope = F.2.2 ∧ fd.defaults = .ref T ∧ c.h₀.get? T = some o ∧ o.data = .seq items n ∧ ∀ W : Wd, VsRel W dfltV items.toList
theorem fn_settings {c : Cx} {lv : Nat} {d : SDen} (H : FnDef c 764 (fn2 pw 79 0)) (hs : SSound c lv (fn2 pw 79 0).2.2 (fn2 pw 79 0).2.1 d) :
    FSound c (lv + 1) 764 (runBody ["self", "kind", "quality", "sampling", "interval", "optimise", "scans", "n", "model"] [.none, .int 0, .bool false, .none, .int 8, .str "ycc"] 3 d) := by
  obtain ⟨fd, T, o, items, n, facts, e1, e2, e3, ho, hd, hv⟩ := H.is
  obtain ⟨its⟩ := items
  obtain ⟨i0, i1, r, rfl⟩ : ∃ i0 i1 r, its = i0 :: i1 :: r := by
    cases hv ⟨fun _ => none, []⟩ with
    | cons _ h => cases h with
      | cons _ h => exact ⟨_, _, _, rfl⟩
  have hr : ∀ W : Wd, VsRel W [.none, .int 0, .bool false, .none, .int 8, .str "ycc"] r := fun W => by
    cases hv W with
    | cons _ h => cases h with
      | cons _ h => exact h
  refine f_body (ds := [.none, .int 0, .bool false, .none, .int 8, .str "ycc"]) (ds' := r) facts (fun W _ => hr W) (fun s vs base hl => ?_) (nodup_of (by rfl)) (by rw [e2]; decide +kernel) rfl (e2 ▸ hs)
  have hlen : r.length = 6 := (hr ⟨fun _ => none, []⟩).length.symm
  obtain ⟨r0, r1, r2, r3, r4, r5, rfl⟩ : ∃ a b c d e f, r = [a, b, c, d, e, f] := by
    obtain ⟨a, r, rfl⟩ := List.exists_cons_of_length_eq_add_one hlen
    obtain ⟨b, r, rfl⟩ := List.exists_cons_of_length_eq_add_one (Nat.succ.inj hlen)
    obtain ⟨d, r, rfl⟩ := List.exists_cons_of_length_eq_add_one (Nat.succ.inj (Nat.succ.inj hlen))
    obtain ⟨e, r, rfl⟩ := List.exists_cons_of_length_eq_add_one (Nat.succ.inj (Nat.succ.inj (Nat.succ.inj hlen)))
    obtain ⟨f, r, rfl⟩ := List.exists_cons_of_length_eq_add_one (Nat.succ.inj (Nat.succ.inj (Nat.succ.inj (Nat.succ.inj hlen))))
    obtain ⟨g, r, rfl⟩ := List.exists_cons_of_length_eq_add_one (Nat.succ.inj (Nat.succ.inj (Nat.succ.inj (Nat.succ.inj (Nat.succ.inj hlen)))))
    have hr0 := List.eq_nil_of_length_eq_zero (Nat.succ.inj (Nat.succ.inj (Nat.succ.inj (Nat.succ.inj (Nat.succ.inj (Nat.succ.inj hlen))))))
    exact ⟨a, b, d, e, f, g, by rw [hr0]⟩
  obtain ⟨v0, v1, v2, rfl⟩ : ∃ a b c, vs = [a, b, c] := by
    match vs, hl with
    | [a, b, c], _ => exact ⟨_, _, _, rfl⟩
  obtain ⟨f1, f2, f3, f4, f5, f6, f7, f8, f9, f10, f11, f12, f13, f14, f15⟩ := fd
  dsimp only at e1 e3
  subst e1 e3
  exact BindsTo.of_defaults rfl (base _ _ ho) hd rfl rfl
end Mine
namespace Mine
noncomputable def vORDER_8 : V := .tup (ORDER8.map .int)
noncomputable def vLUMA : V := .tup (LUMAs.map .int)
noncomputable def vCHROMA_LOW : V := .tup (CHROMAs.map .int)
noncomputable def vKINDS : V := .tup (KINDs.map .str)
noncomputable def b__law_urn : SDen := sSeq (sAsg "number" (dIf (dTest (dBin oLt (dLoc "at") (dBlt bLen (dCons (dLoc "script") (dNil))))) (dBlt bAbs (dCons (dItem (dLoc "script") (dLoc "at")) (dNil))) (dVal (.int 0)))) (sSeq (sRet (dListM (dCons (dLoc "number") (dCons (dBin oAdd (dBin oAdd (dBin oMod (dLoc "number") (dVal (.int 1000033))) (dBin oMul (dVal (.int 11)) (dLoc "at"))) (dVal (.int 3))) (dNil))))) (sNil))
noncomputable def d__law_urn := runBody ["script", "at"] [] 2 b__law_urn
noncomputable def b_Frame_init : SDen := sSeq (sSet "kind" (dLoc "self") (dLoc "kind")) (sSeq (sSet "precision" (dLoc "self") (dLoc "precision")) (sSeq (sSet "height" (dLoc "self") (dLoc "height")) (sSeq (sSet "width" (dLoc "self") (dLoc "width")) (sSeq (sSet "components" (dLoc "self") (dLoc "components")) (sSeq (sSet "n" (dLoc "self") (dLoc "n")) (sNil))))))
noncomputable def d_Frame_init := runBody ["self", "kind", "precision", "height", "width", "components", "n"] [] 7 b_Frame_init
noncomputable def b_Tables_init : SDen := sSeq (sSet "quant" (dLoc "self") (dDict0)) (sSeq (sSet "codes" (dLoc "self") (dDict0)) (sSeq (sSet "conditioning" (dLoc "self") (dDict0)) (sNil)))
noncomputable def d_Tables_init := runBody ["self"] [] 1 b_Tables_init
noncomputable def b_scaled_by : SDen := sSeq (sRet (dBlt bTuple (dCons (dComp ["hundredths","most"] "one" (dLoc "qtable") (dBlt bMax2 (dCons (dVal (.int 1)) (dCons (dBlt bMin2 (dCons (dLoc "most") (dCons (dBin oDiv (dBin oAdd (dBin oMul (dLoc "one") (dLoc "hundredths")) (dVal (.int 50))) (dVal (.int 100))) (dNil)))) (dNil))))) (dNil)))) (sNil)
noncomputable def d_scaled_by := runBody ["qtable", "hundredths", "most"] [] 3 b_scaled_by
noncomputable def b_quality_scale : SDen := sSeq (sAsg "told" (dBlt bMax2 (dCons (dVal (.int 1)) (dCons (dBlt bMin2 (dCons (dVal (.int 100)) (dCons (dLoc "quality") (dNil)))) (dNil))))) (sSeq (sRet (dIf (dTest (dBin oLt (dLoc "told") (dVal (.int 50)))) (dBin oDiv (dVal (.int 5000)) (dLoc "told")) (dBin oSub (dVal (.int 200)) (dBin oMul (dVal (.int 2)) (dLoc "told"))))) (sNil))
noncomputable def d_quality_scale := runBody ["quality"] [] 1 b_quality_scale
noncomputable def b_scaled_table : SDen := sSeq (sRet (dCall d_scaled_by (dCons (dLoc "qtable") (dCons (dCall d_quality_scale (dCons (dLoc "quality") (dNil))) (dCons (dLoc "most") (dNil)))))) (sNil)
noncomputable def d_scaled_table := runBody ["qtable", "quality", "most"] [] 3 b_scaled_table
noncomputable def b_zigzag_places : SDen := sSeq (sOwn "found" (dNil)) (sSeq (sFor "total" (dBlt bRange (dCons (dBin oSub (dBin oMul (dVal (.int 2)) (dLoc "n")) (dVal (.int 1))) (dNil))) (sSeq (sAsg "low" (dBlt bMax2 (dCons (dVal (.int 0)) (dCons (dBin oAdd (dBin oSub (dLoc "total") (dLoc "n")) (dVal (.int 1))) (dNil))))) (sSeq (sAsg "high" (dBlt bMin2 (dCons (dLoc "total") (dCons (dBin oSub (dLoc "n") (dVal (.int 1))) (dNil))))) (sSeq (sAsg "rows" (dIf (dTest (dBin oEq (dBin oMod (dLoc "total") (dVal (.int 2))) (dVal (.int 1)))) (dBlt bRange (dCons (dLoc "low") (dCons (dBin oAdd (dLoc "high") (dVal (.int 1))) (dNil)))) (dBlt bRange (dCons (dLoc "high") (dCons (dBin oSub (dLoc "low") (dVal (.int 1))) (dCons (dUn oNeg (dVal (.int 1))) (dNil))))))) (sSeq (sFor "y" (dLoc "rows") (sSeq (sPush "found" (dBin oSub (dBin oAdd (dBin oMul (dLoc "y") (dLoc "n")) (dLoc "total")) (dLoc "y"))) (sNil))) (sNil)))))) (sFreeze "found" (sSeq (sRet (dBlt bTuple (dCons (dLoc "found") (dNil)))) (sNil))))
noncomputable def d_zigzag_places := runBody ["n"] [] 1 b_zigzag_places
noncomputable def b_order : SDen := sSeq (sRet (dIf (dTest (dBin oEq (dLoc "n") (dVal (.int 8)))) (dVal vORDER_8) (dCall d_zigzag_places (dCons (dLoc "n") (dNil))))) (sNil)
noncomputable def d_order := runBody ["n"] [] 1 b_order
noncomputable def b_to_row : SDen := sSeq (sRet (dComp ["block"] "place" (dCall d_order (dCons (dLoc "n") (dNil))) (dItem (dLoc "block") (dLoc "place")))) (sNil)
noncomputable def d_to_row := runBody ["block", "n"] [] 2 b_to_row
noncomputable def b_chroma_at : SDen := sSeq (sRet (dIf (tAnd (dTest (dBin oLt (dLoc "x") (dVal (.int 4)))) (dTest (dBin oLt (dLoc "y") (dVal (.int 4))))) (dItem (dVal vCHROMA_LOW) (dBin oAdd (dBin oMul (dLoc "y") (dVal (.int 4))) (dLoc "x"))) (dVal (.int 99)))) (sNil)
noncomputable def d_chroma_at := runBody ["x", "y"] [] 2 b_chroma_at
noncomputable def b_picked_std_quant : SDen := sSeq (sIf (tNot (tChain oLe oLe (dVal (.int 1)) (dLoc "n") (dVal (.int 8)))) (sNone) (sNil)) (sSeq (sOwn "found" (dNil)) (sSeq (sFor "y" (dBlt bRange (dCons (dLoc "n") (dNil))) (sSeq (sFor "x" (dBlt bRange (dCons (dLoc "n") (dNil))) (sSeq (sUnpR ["across", "down"] (dTup (dCons (dBin oDiv (dBin oMul (dLoc "x") (dVal (.int 8))) (dLoc "n")) (dCons (dBin oDiv (dBin oMul (dLoc "y") (dVal (.int 8))) (dLoc "n")) (dNil))))) (sSeq (sPush "found" (dIf (dTest (dBin oEq (dLoc "kind") (dVal (.int 0)))) (dItem (dVal vLUMA) (dBin oAdd (dBin oMul (dLoc "down") (dVal (.int 8))) (dLoc "across"))) (dCall d_chroma_at (dCons (dLoc "across") (dCons (dLoc "down") (dNil)))))) (sNil)))) (sNil))) (sFreeze "found" (sSeq (sRet (dLoc "found")) (sNil)))))
noncomputable def d_picked_std_quant := runBody ["n", "kind"] [] 2 b_picked_std_quant
noncomputable def b_chroma : SDen := sSeq (sRet (dBlt bTuple (dCons (dCall d_to_row (dCons (dCall d_picked_std_quant (dCons (dLoc "n") (dCons (dVal (.int 1)) (dNil)))) (dCons (dLoc "n") (dNil)))) (dNil)))) (sNil)
noncomputable def d_chroma := runBody ["n"] [] 1 b_chroma
noncomputable def b_luma : SDen := sSeq (sRet (dBlt bTuple (dCons (dCall d_to_row (dCons (dCall d_picked_std_quant (dCons (dLoc "n") (dCons (dVal (.int 0)) (dNil)))) (dCons (dLoc "n") (dNil)))) (dNil)))) (sNil)
noncomputable def d_luma := runBody ["n"] [] 1 b_luma
noncomputable def b_made_tables : SDen := sSeq (sAsg "most" (dIf (dTest (dBin oGt (dAttr "precision" (dLoc "frame")) (dVal (.int 8)))) (dVal (.int 65535)) (dVal (.int 255)))) (sSeq (sAsg "tables" (dNew 382 d_Tables_init (dNil))) (sSeq (sFor "component" (dAttr "components" (dLoc "frame")) (sSeq (sAsg "base" (dIf (dTest (dBin oEq (dAttr "quant" (dLoc "component")) (dVal (.int 1)))) (dCall d_chroma (dCons (dAttr "n" (dLoc "frame")) (dNil))) (dCall d_luma (dCons (dAttr "n" (dLoc "frame")) (dNil))))) (sSeq (sPut (dAttr "quant" (dLoc "tables")) (dAttr "quant" (dLoc "component")) (dCall d_scaled_table (dCons (dLoc "base") (dCons (dAttr "quality" (dLoc "settings")) (dCons (dLoc "most") (dNil)))))) (sNil)))) (sSeq (sRet (dLoc "tables")) (sNil))))
noncomputable def d_made_tables := runBody ["frame", "settings"] [] 2 b_made_tables
noncomputable def b_Component_init : SDen := sSeq (sSet "ident" (dLoc "self") (dLoc "ident")) (sSeq (sSet "across" (dLoc "self") (dLoc "across")) (sSeq (sSet "down" (dLoc "self") (dLoc "down")) (sSeq (sSet "quant" (dLoc "self") (dLoc "quant")) (sNil))))
noncomputable def d_Component_init := runBody ["self", "ident", "across", "down", "quant"] [] 5 b_Component_init
noncomputable def b_Settings_init : SDen := sSeq (sIf (dTest (dBin oNotIn (dLoc "kind") (dVal vKINDS))) (sNone) (sNil)) (sSeq (sIf (tNot (tChain oLe oLe (dVal (.int 1)) (dLoc "quality") (dVal (.int 100)))) (sNone) (sNil)) (sSeq (sIf (tNot (tChain oLe oLe (dVal (.int 0)) (dLoc "interval") (dVal (.int 65535)))) (sNone) (sNil)) (sSeq (sSet "kind" (dLoc "self") (dLoc "kind")) (sSeq (sSet "quality" (dLoc "self") (dLoc "quality")) (sSeq (sSet "sampling" (dLoc "self") (dLoc "sampling")) (sSeq (sSet "interval" (dLoc "self") (dLoc "interval")) (sSeq (sSet "optimise" (dLoc "self") (dLoc "optimise")) (sSeq (sSet "scans" (dLoc "self") (dLoc "scans")) (sSeq (sSet "n" (dLoc "self") (dLoc "n")) (sSeq (sSet "model" (dLoc "self") (dLoc "model")) (sNil)))))))))))
noncomputable def d_Settings_init := runBody ["self", "kind", "quality", "sampling", "interval", "optimise", "scans", "n", "model"] [.none, .int 0, .bool false, .none, .int 8, .str "ycc"] 3 b_Settings_init
noncomputable def b__law_hundredths : SDen := sSeq (sRet (dIf (dTest (dBin oLt (dLoc "quality") (dVal (.int 50)))) (dBin oDiv (dVal (.int 5000)) (dLoc "quality")) (dBin oSub (dVal (.int 200)) (dBin oMul (dVal (.int 2)) (dLoc "quality"))))) (sNil)
noncomputable def d__law_hundredths := runBody ["quality"] [] 1 b__law_hundredths
noncomputable def b__law_divisors : SDen := sSeq (sRet (dBlt bTuple (dCons (dComp ["most","quality"] "one" (dLoc "base") (dBlt bMin2 (dCons (dLoc "most") (dCons (dBlt bMax2 (dCons (dVal (.int 1)) (dCons (dBin oDiv (dBin oAdd (dBin oMul (dLoc "one") (dCall d__law_hundredths (dCons (dLoc "quality") (dNil)))) (dVal (.int 50))) (dVal (.int 100))) (dNil)))) (dNil))))) (dNil)))) (sNil)
noncomputable def d__law_divisors := runBody ["base", "quality", "most"] [] 3 b__law_divisors
noncomputable def b__law_from : SDen := sSeq (sPut (dLoc "urn") (dVal (.int 1)) (dBin oMod (dBin oAdd (dBin oMul (dItem (dLoc "urn") (dVal (.int 1))) (dVal (.int 5081))) (dVal (.int 4457))) (dVal (.int 1999979)))) (sSeq (sAsg "got" (dBin oMod (dBin oAdd (dItem (dLoc "urn") (dVal (.int 0))) (dBin oDiv (dItem (dLoc "urn") (dVal (.int 1))) (dVal (.int 13)))) (dLoc "many"))) (sSeq (sPut (dLoc "urn") (dVal (.int 0)) (dBin oDiv (dItem (dLoc "urn") (dVal (.int 0))) (dLoc "many"))) (sSeq (sRet (dLoc "got")) (sNil))))
noncomputable def d__law_from := runBody ["urn", "many"] [] 2 b__law_from
noncomputable def b_parts : SDen := sSeq (sRet (dBin oDiv (dBin oSub (dBin oAdd (dLoc "many") (dLoc "size")) (dVal (.int 1))) (dLoc "size"))) (sNil)
noncomputable def d_parts := runBody ["many", "size"] [] 2 b_parts
noncomputable def b_Frame_most_across : SDen := sSeq (sRet (dBlt bMaxL (dCons (dComp [] "component" (dAttr "components" (dLoc "self")) (dAttr "across" (dLoc "component"))) (dNil)))) (sNil)
noncomputable def d_Frame_most_across := runBody ["self"] [] 1 b_Frame_most_across
noncomputable def b_Frame_most_down : SDen := sSeq (sRet (dBlt bMaxL (dCons (dComp [] "component" (dAttr "components" (dLoc "self")) (dAttr "down" (dLoc "component"))) (dNil)))) (sNil)
noncomputable def d_Frame_most_down := runBody ["self"] [] 1 b_Frame_most_down
noncomputable def b_Frame_plane_size : SDen := sSeq (sAsg "component" (dItem (dAttr "components" (dLoc "self")) (dLoc "place"))) (sSeq (sAsg "width" (dCall d_parts (dCons (dBin oMul (dAttr "width" (dLoc "self")) (dAttr "across" (dLoc "component"))) (dCons (dMeth "most_across" (fun C => if C = 669 then some d_Frame_most_across else none) (dLoc "self") (dNil)) (dNil))))) (sSeq (sRet (dTup (dCons (dLoc "width") (dCons (dCall d_parts (dCons (dBin oMul (dAttr "height" (dLoc "self")) (dAttr "down" (dLoc "component"))) (dCons (dMeth "most_down" (fun C => if C = 669 then some d_Frame_most_down else none) (dLoc "self") (dNil)) (dNil)))) (dNil))))) (sNil)))
noncomputable def d_Frame_plane_size := runBody ["self", "place"] [] 2 b_Frame_plane_size
noncomputable def b_Frame_blocks : SDen := sSeq (sUnp ["width", "height"] (dMeth "plane_size" (fun C => if C = 669 then some d_Frame_plane_size else none) (dLoc "self") (dCons (dLoc "place") (dNil)))) (sSeq (sRet (dTup (dCons (dCall d_parts (dCons (dLoc "width") (dCons (dAttr "n" (dLoc "self")) (dNil)))) (dCons (dCall d_parts (dCons (dLoc "height") (dCons (dAttr "n" (dLoc "self")) (dNil)))) (dNil))))) (sNil))
noncomputable def d_Frame_blocks := runBody ["self", "place"] [] 2 b_Frame_blocks
noncomputable def b_Grid_put : SDen := sSeq (sPut (dItem (dItem (dAttr "planes" (dLoc "self")) (dLoc "place")) (dLoc "y")) (dLoc "x") (dBlt bList (dCons (dLoc "row") (dNil)))) (sNil)
noncomputable def d_Grid_put := runBody ["self", "place", "x", "y", "row"] [] 5 b_Grid_put
noncomputable def b_quantise : SDen := sSeq (sOwn "found" (dNil)) (sSeq (sFor "place" (dBlt bRange (dCons (dBlt bLen (dCons (dLoc "row") (dNil))) (dNil))) (sSeq (sAsg "number" (dItem (dLoc "row") (dLoc "place"))) (sSeq (sAsg "divisor" (dBin oMul (dItem (dLoc "qtable") (dLoc "place")) (dLoc "scale"))) (sSeq (sAsg "many" (dBin oDiv (dBin oAdd (dBin oMul (dVal (.int 2)) (dBlt bAbs (dCons (dLoc "number") (dNil)))) (dLoc "divisor")) (dBin oMul (dVal (.int 2)) (dLoc "divisor")))) (sSeq (sPush "found" (dIf (dTest (dBin oLt (dLoc "number") (dVal (.int 0)))) (dUn oNeg (dLoc "many")) (dLoc "many"))) (sNil)))))) (sFreeze "found" (sSeq (sRet (dLoc "found")) (sNil))))
noncomputable def d_quantise := runBody ["row", "qtable", "scale"] [] 3 b_quantise
noncomputable def b_turned : SDen := sSeq (sOwn "found" (dNil)) (sSeq (sFor "place" (dBlt bRange (dCons (dLoc "n") (dNil))) (sSeq (sExt "found" (dSlice (dLoc "block") (pSome (dLoc "place")) pNone (pSome (dLoc "n")))) (sNil))) (sFreeze "found" (sSeq (sRet (dLoc "found")) (sNil))))
noncomputable def d_turned := runBody ["block", "n"] [] 2 b_turned
noncomputable def b_even_forward : SDen := sSeq (sUnpR ["outer", "inner"] (dTup (dCons (dBin oSub (dLoc "a") (dLoc "d")) (dCons (dBin oSub (dLoc "b") (dLoc "c")) (dNil))))) (sSeq (sAsg "shared" (dBin oMul (dBin oAdd (dLoc "outer") (dLoc "inner")) (dVal (.int 4433)))) (sSeq (sRet (dTup (dCons (dBin oAdd (dBin oAdd (dBin oAdd (dLoc "a") (dLoc "d")) (dLoc "b")) (dLoc "c")) (dCons (dBin oSub (dBin oSub (dBin oAdd (dLoc "a") (dLoc "d")) (dLoc "b")) (dLoc "c")) (dCons (dBin oAdd (dLoc "shared") (dBin oMul (dLoc "outer") (dVal (.int 6270)))) (dCons (dBin oSub (dLoc "shared") (dBin oMul (dLoc "inner") (dVal (.int 15137)))) (dNil))))))) (sNil)))
noncomputable def d_even_forward := runBody ["a", "b", "c", "d"] [] 4 b_even_forward
noncomputable def b_odd_flow : SDen := sSeq (sAsg "cross" (dBin oMul (dBin oAdd (dBin oAdd (dBin oAdd (dLoc "a") (dLoc "c")) (dLoc "b")) (dLoc "d")) (dVal (.int 9633)))) (sSeq (sUnpR ["outer", "inner"] (dTup (dCons (dBin oMul (dBin oAdd (dLoc "a") (dLoc "d")) (dVal (.int 7373))) (dCons (dBin oMul (dBin oAdd (dLoc "b") (dLoc "c")) (dVal (.int 20995))) (dNil))))) (sSeq (sUnpR ["near", "far"] (dTup (dCons (dBin oSub (dLoc "cross") (dBin oMul (dBin oAdd (dLoc "a") (dLoc "c")) (dVal (.int 16069)))) (dCons (dBin oSub (dLoc "cross") (dBin oMul (dBin oAdd (dLoc "b") (dLoc "d")) (dVal (.int 3196)))) (dNil))))) (sSeq (sRet (dTup (dCons (dBin oAdd (dBin oSub (dBin oMul (dLoc "a") (dVal (.int 2446))) (dLoc "outer")) (dLoc "near")) (dCons (dBin oAdd (dBin oSub (dBin oMul (dLoc "b") (dVal (.int 16819))) (dLoc "inner")) (dLoc "far")) (dCons (dBin oAdd (dBin oSub (dBin oMul (dLoc "c") (dVal (.int 25172))) (dLoc "inner")) (dLoc "near")) (dCons (dBin oAdd (dBin oSub (dBin oMul (dLoc "d") (dVal (.int 12299))) (dLoc "outer")) (dLoc "far")) (dNil))))))) (sNil))))
noncomputable def d_odd_flow := runBody ["a", "b", "c", "d"] [] 4 b_odd_flow
noncomputable def b_descaled : SDen := sSeq (sRet (dBin oShr (dBin oAdd (dLoc "number") (dBin oShl (dVal (.int 1)) (dBin oSub (dLoc "bits") (dVal (.int 1))))) (dLoc "bits"))) (sNil)
noncomputable def d_descaled := runBody ["number", "bits"] [] 2 b_descaled
noncomputable def b_forward_row : SDen := sSeq (sUnp ["a", "b", "c", "d", "e", "f", "g", "h"] (dLoc "row")) (sSeq (sUnp ["zero", "four", "two", "six"] (dCall d_even_forward (dCons (dBin oAdd (dLoc "a") (dLoc "h")) (dCons (dBin oAdd (dLoc "b") (dLoc "g")) (dCons (dBin oAdd (dLoc "c") (dLoc "f")) (dCons (dBin oAdd (dLoc "d") (dLoc "e")) (dNil))))))) (sSeq (sUnp ["seven", "five", "three", "one"] (dCall d_odd_flow (dCons (dBin oSub (dLoc "d") (dLoc "e")) (dCons (dBin oSub (dLoc "c") (dLoc "f")) (dCons (dBin oSub (dLoc "b") (dLoc "g")) (dCons (dBin oSub (dLoc "a") (dLoc "h")) (dNil))))))) (sSeq (sIf (dTest (dBin oGt (dLoc "plain_down") (dVal (.int 0)))) (sSeq (sUnpR ["zero", "four"] (dTup (dCons (dCall d_descaled (dCons (dLoc "zero") (dCons (dLoc "plain_down") (dNil)))) (dCons (dCall d_descaled (dCons (dLoc "four") (dCons (dLoc "plain_down") (dNil)))) (dNil))))) (sNil)) (sSeq (sUnpR ["zero", "four"] (dTup (dCons (dBin oShl (dLoc "zero") (dLoc "plain_up")) (dCons (dBin oShl (dLoc "four") (dLoc "plain_up")) (dNil))))) (sNil))) (sSeq (sAsg "turned_ones" (dComp ["turned_down"] "number" (dTup (dCons (dLoc "one") (dCons (dLoc "two") (dCons (dLoc "three") (dCons (dLoc "five") (dCons (dLoc "six") (dCons (dLoc "seven") (dNil)))))))) (dCall d_descaled (dCons (dLoc "number") (dCons (dLoc "turned_down") (dNil)))))) (sSeq (sRet (dList (dCons (dLoc "zero") (dCons (dItem (dLoc "turned_ones") (dVal (.int 0))) (dCons (dItem (dLoc "turned_ones") (dVal (.int 1))) (dCons (dItem (dLoc "turned_ones") (dVal (.int 2))) (dCons (dLoc "four") (dCons (dItem (dLoc "turned_ones") (dVal (.int 3))) (dCons (dItem (dLoc "turned_ones") (dVal (.int 4))) (dCons (dItem (dLoc "turned_ones") (dVal (.int 5))) (dNil))))))))))) (sNil))))))
noncomputable def d_forward_row := runBody ["row", "plain_up", "plain_down", "turned_down"] [] 4 b_forward_row
noncomputable def b_IslowDct_forward : SDen := sSeq (sOwn "found" (dNil)) (sSeq (sFor "at" (dBlt bRange (dCons (dVal (.int 0)) (dCons (dBin oMul (dVal (.int 8)) (dVal (.int 8))) (dCons (dVal (.int 8)) (dNil))))) (sSeq (sExt "found" (dCall d_forward_row (dCons (dSlice (dLoc "block") (pSome (dLoc "at")) (pSome (dBin oAdd (dLoc "at") (dVal (.int 8)))) pNone) (dCons (dVal (.int 2)) (dCons (dVal (.int 0)) (dCons (dBin oSub (dVal (.int 13)) (dVal (.int 2))) (dNil))))))) (sNil))) (sFreeze "found" (sSeq (sAsg "across" (dCall d_turned (dCons (dLoc "found") (dCons (dVal (.int 8)) (dNil))))) (sSeq (sOwn "found" (dNil)) (sSeq (sFor "at" (dBlt bRange (dCons (dVal (.int 0)) (dCons (dBin oMul (dVal (.int 8)) (dVal (.int 8))) (dCons (dVal (.int 8)) (dNil))))) (sSeq (sExt "found" (dCall d_forward_row (dCons (dSlice (dLoc "across") (pSome (dLoc "at")) (pSome (dBin oAdd (dLoc "at") (dVal (.int 8)))) pNone) (dCons (dVal (.int 0)) (dCons (dVal (.int 2)) (dCons (dBin oAdd (dVal (.int 13)) (dVal (.int 2))) (dNil))))))) (sNil))) (sFreeze "found" (sSeq (sRet (dCall d_turned (dCons (dLoc "found") (dCons (dVal (.int 8)) (dNil))))) (sNil))))))))
noncomputable def d_IslowDct_forward := runBody ["self", "block"] [] 2 b_IslowDct_forward
noncomputable def b_FourDct_forward : SDen := sSeq (sOwn "found" (dNil)) (sSeq (sFor "at" (dBlt bRange (dCons (dVal (.int 0)) (dCons (dBin oMul (dVal (.int 4)) (dVal (.int 4))) (dCons (dVal (.int 4)) (dNil))))) (sSeq (sUnp ["zero", "two", "one", "three"] (dCall d_even_forward (dCons (dItem (dLoc "block") (dLoc "at")) (dCons (dItem (dLoc "block") (dBin oAdd (dLoc "at") (dVal (.int 1)))) (dCons (dItem (dLoc "block") (dBin oAdd (dLoc "at") (dVal (.int 2)))) (dCons (dItem (dLoc "block") (dBin oAdd (dLoc "at") (dVal (.int 3)))) (dNil))))))) (sSeq (sExt "found" (dList (dCons (dBin oShl (dLoc "zero") (dVal (.int 2))) (dCons (dCall d_descaled (dCons (dLoc "one") (dCons (dBin oSub (dVal (.int 13)) (dVal (.int 2))) (dNil)))) (dNil))))) (sSeq (sExt "found" (dList (dCons (dBin oShl (dLoc "two") (dVal (.int 2))) (dCons (dCall d_descaled (dCons (dLoc "three") (dCons (dBin oSub (dVal (.int 13)) (dVal (.int 2))) (dNil)))) (dNil))))) (sNil))))) (sFreeze "found" (sSeq (sAsg "across" (dCall d_turned (dCons (dLoc "found") (dCons (dVal (.int 4)) (dNil))))) (sSeq (sOwn "found" (dNil)) (sSeq (sFor "at" (dBlt bRange (dCons (dVal (.int 0)) (dCons (dBin oMul (dVal (.int 4)) (dVal (.int 4))) (dCons (dVal (.int 4)) (dNil))))) (sSeq (sUnp ["zero", "two", "one", "three"] (dCall d_even_forward (dCons (dItem (dLoc "across") (dLoc "at")) (dCons (dItem (dLoc "across") (dBin oAdd (dLoc "at") (dVal (.int 1)))) (dCons (dItem (dLoc "across") (dBin oAdd (dLoc "at") (dVal (.int 2)))) (dCons (dItem (dLoc "across") (dBin oAdd (dLoc "at") (dVal (.int 3)))) (dNil))))))) (sSeq (sExt "found" (dList (dCons (dCall d_descaled (dCons (dLoc "zero") (dCons (dBin oSub (dVal (.int 2)) (dVal (.int 1))) (dNil)))) (dCons (dCall d_descaled (dCons (dLoc "one") (dCons (dBin oSub (dBin oAdd (dVal (.int 13)) (dVal (.int 2))) (dVal (.int 1))) (dNil)))) (dNil))))) (sSeq (sExt "found" (dList (dCons (dCall d_descaled (dCons (dLoc "two") (dCons (dBin oSub (dVal (.int 2)) (dVal (.int 1))) (dNil)))) (dCons (dCall d_descaled (dCons (dLoc "three") (dCons (dBin oSub (dBin oAdd (dVal (.int 13)) (dVal (.int 2))) (dVal (.int 1))) (dNil)))) (dNil))))) (sNil))))) (sFreeze "found" (sSeq (sRet (dCall d_turned (dCons (dLoc "found") (dCons (dVal (.int 4)) (dNil))))) (sNil))))))))
noncomputable def d_FourDct_forward := runBody ["self", "block"] [] 2 b_FourDct_forward
noncomputable def b_TwoDct_sums : SDen := sSeq (sUnp ["a", "b", "c", "d"] (dLoc "block")) (sSeq (sRet (dList (dCons (dBin oAdd (dBin oAdd (dBin oAdd (dLoc "a") (dLoc "b")) (dLoc "c")) (dLoc "d")) (dCons (dBin oSub (dBin oAdd (dBin oSub (dLoc "a") (dLoc "b")) (dLoc "c")) (dLoc "d")) (dCons (dBin oSub (dBin oSub (dBin oAdd (dLoc "a") (dLoc "b")) (dLoc "c")) (dLoc "d")) (dCons (dBin oAdd (dBin oSub (dBin oSub (dLoc "a") (dLoc "b")) (dLoc "c")) (dLoc "d")) (dNil))))))) (sNil))
noncomputable def d_TwoDct_sums := runBody ["self", "block"] [] 2 b_TwoDct_sums
noncomputable def b_TwoDct_forward : SDen := sSeq (sRet (dComp [] "number" (dMeth "sums" (fun C => if C = 512 then some d_TwoDct_sums else none) (dLoc "self") (dCons (dLoc "block") (dNil))) (dBin oMul (dLoc "number") (dVal (.int 4))))) (sNil)
noncomputable def d_TwoDct_forward := runBody ["self", "block"] [] 2 b_TwoDct_forward
noncomputable def b_OneDct_forward : SDen := sSeq (sRet (dList (dCons (dBin oMul (dItem (dLoc "block") (dVal (.int 0))) (dVal (.int 8))) (dNil)))) (sNil)
noncomputable def d_OneDct_forward := runBody ["self", "block"] [] 2 b_OneDct_forward
noncomputable def b_picked_transform : SDen := sSeq (sIf (dTest (dBin oEq (dLoc "n") (dVal (.int 8)))) (sSeq (sRet (dVal (.obj 455 []))) (sNil)) (sNil)) (sSeq (sIf (dTest (dBin oEq (dLoc "n") (dVal (.int 4)))) (sSeq (sRet (dVal (.obj 481 []))) (sNil)) (sNil)) (sSeq (sIf (dTest (dBin oEq (dLoc "n") (dVal (.int 2)))) (sSeq (sRet (dVal (.obj 512 []))) (sNil)) (sNil)) (sSeq (sIf (dTest (dBin oEq (dLoc "n") (dVal (.int 1)))) (sSeq (sRet (dVal (.obj 540 []))) (sNil)) (sNil)) (sNone))))
noncomputable def d_picked_transform := runBody ["n"] [] 1 b_picked_transform
noncomputable def b_forward : SDen := sSeq (sRet (dMeth "forward" (dOr (fun C => if C = 455 then some d_IslowDct_forward else none) (dOr (fun C => if C = 481 then some d_FourDct_forward else none) (dOr (fun C => if C = 512 then some d_TwoDct_forward else none) (fun C => if C = 540 then some d_OneDct_forward else none)))) (dCall d_picked_transform (dCons (dLoc "n") (dNil))) (dCons (dLoc "block") (dNil)))) (sNil)
noncomputable def d_forward := runBody ["block", "n"] [] 2 b_forward
noncomputable def b_kept_in : SDen := sSeq (sIf (dTest (dBin oLt (dLoc "place") (dVal (.int 0)))) (sSeq (sRet (dVal (.int 0))) (sNil)) (sNil)) (sSeq (sRet (dIf (dTest (dBin oLt (dLoc "place") (dLoc "size"))) (dLoc "place") (dBin oSub (dLoc "size") (dVal (.int 1))))) (sNil))
noncomputable def d_kept_in := runBody ["place", "size"] [] 2 b_kept_in
noncomputable def b_Plane_at : SDen := sSeq (sRet (dItem (dItem (dAttr "rows" (dLoc "self")) (dCall d_kept_in (dCons (dLoc "y") (dCons (dAttr "height" (dLoc "self")) (dNil))))) (dCall d_kept_in (dCons (dLoc "x") (dCons (dAttr "width" (dLoc "self")) (dNil)))))) (sNil)
noncomputable def d_Plane_at := runBody ["self", "x", "y"] [] 3 b_Plane_at
noncomputable def b_block_of : SDen := sSeq (sOwn "found" (dNil)) (sSeq (sFor "row" (dBlt bRange (dCons (dBin oMul (dLoc "y") (dLoc "n")) (dCons (dBin oAdd (dBin oMul (dLoc "y") (dLoc "n")) (dLoc "n")) (dNil)))) (sSeq (sExt "found" (dComp ["centre","plane","row"] "place" (dBlt bRange (dCons (dBin oMul (dLoc "x") (dLoc "n")) (dCons (dBin oAdd (dBin oMul (dLoc "x") (dLoc "n")) (dLoc "n")) (dNil)))) (dBin oSub (dMeth "at" (fun C => if C = 737 then some d_Plane_at else none) (dLoc "plane") (dCons (dLoc "place") (dCons (dLoc "row") (dNil)))) (dLoc "centre")))) (sNil))) (sFreeze "found" (sSeq (sRet (dLoc "found")) (sNil))))
noncomputable def d_block_of := runBody ["plane", "x", "y", "n", "centre"] [] 5 b_block_of
noncomputable def b_coded_block : SDen := sSeq (sAsg "row" (dCall d_to_row (dCons (dCall d_forward (dCons (dCall d_block_of (dCons (dLoc "plane") (dCons (dLoc "x") (dCons (dLoc "y") (dCons (dLoc "n") (dCons (dLoc "centre") (dNil))))))) (dCons (dLoc "n") (dNil)))) (dCons (dLoc "n") (dNil))))) (sSeq (sRet (dCall d_quantise (dCons (dLoc "row") (dCons (dLoc "qtable") (dCons (dVal (.int 8)) (dNil)))))) (sNil))
noncomputable def d_coded_block := runBody ["plane", "x", "y", "n", "centre", "qtable"] [] 6 b_coded_block
noncomputable def b_put_component : SDen := sSeq (sUnp ["across", "down"] (dMeth "blocks" (fun C => if C = 669 then some d_Frame_blocks else none) (dLoc "frame") (dCons (dLoc "place") (dNil)))) (sSeq (sAsg "centre" (dBin oShl (dVal (.int 1)) (dBin oSub (dAttr "precision" (dLoc "frame")) (dVal (.int 1))))) (sSeq (sFor "y" (dBlt bRange (dCons (dLoc "down") (dNil))) (sSeq (sFor "x" (dBlt bRange (dCons (dLoc "across") (dNil))) (sSeq (sExpr (dMeth "put" (fun C => if C = 702 then some d_Grid_put else none) (dLoc "grid") (dCons (dLoc "place") (dCons (dLoc "x") (dCons (dLoc "y") (dCons (dCall d_coded_block (dCons (dLoc "plane") (dCons (dLoc "x") (dCons (dLoc "y") (dCons (dAttr "n" (dLoc "frame")) (dCons (dLoc "centre") (dCons (dLoc "qtable") (dNil)))))))) (dNil))))))) (sNil))) (sNil))) (sNil)))
noncomputable def d_put_component := runBody ["frame", "grid", "place", "plane", "qtable"] [] 5 b_put_component
noncomputable def b_Frame_mcus_across : SDen := sSeq (sRet (dCall d_parts (dCons (dAttr "width" (dLoc "self")) (dCons (dBin oMul (dAttr "n" (dLoc "self")) (dMeth "most_across" (fun C => if C = 669 then some d_Frame_most_across else none) (dLoc "self") (dNil))) (dNil))))) (sNil)
noncomputable def d_Frame_mcus_across := runBody ["self"] [] 1 b_Frame_mcus_across
noncomputable def b_Frame_mcus_down : SDen := sSeq (sRet (dCall d_parts (dCons (dAttr "height" (dLoc "self")) (dCons (dBin oMul (dAttr "n" (dLoc "self")) (dMeth "most_down" (fun C => if C = 669 then some d_Frame_most_down else none) (dLoc "self") (dNil))) (dNil))))) (sNil)
noncomputable def d_Frame_mcus_down := runBody ["self"] [] 1 b_Frame_mcus_down
noncomputable def b_Frame_padded : SDen := sSeq (sAsg "component" (dItem (dAttr "components" (dLoc "self")) (dLoc "place"))) (sSeq (sRet (dTup (dCons (dBin oMul (dMeth "mcus_across" (fun C => if C = 669 then some d_Frame_mcus_across else none) (dLoc "self") (dNil)) (dAttr "across" (dLoc "component"))) (dCons (dBin oMul (dMeth "mcus_down" (fun C => if C = 669 then some d_Frame_mcus_down else none) (dLoc "self") (dNil)) (dAttr "down" (dLoc "component"))) (dNil))))) (sNil))
noncomputable def d_Frame_padded := runBody ["self", "place"] [] 2 b_Frame_padded
noncomputable def b__law_rows : SDen := sSeq (sAsg "form" (dCall d__law_from (dCons (dLoc "urn") (dCons (dVal (.int 4)) (dNil))))) (sSeq (sIf (dTest (dBin oEq (dLoc "form") (dVal (.int 0)))) (sSeq (sAsg "lone" (dCall d__law_from (dCons (dLoc "urn") (dCons (dBin oAdd (dLoc "most") (dVal (.int 1))) (dNil))))) (sSeq (sRet (dComp ["lone","wide"] "y" (dBlt bRange (dCons (dLoc "high") (dNil))) (dBin oTimes (dList (dCons (dLoc "lone") (dNil))) (dLoc "wide")))) (sNil))) (sNil)) (sSeq (sIf (dTest (dBin oEq (dLoc "form") (dVal (.int 1)))) (sSeq (sRet (dComp ["most","urn","wide"] "y" (dBlt bRange (dCons (dLoc "high") (dNil))) (dComp ["most","urn"] "x" (dBlt bRange (dCons (dLoc "wide") (dNil))) (dBin oMul (dCall d__law_from (dCons (dLoc "urn") (dCons (dVal (.int 2)) (dNil)))) (dLoc "most"))))) (sNil)) (sNil)) (sSeq (sRet (dComp ["most","urn","wide"] "y" (dBlt bRange (dCons (dLoc "high") (dNil))) (dComp ["most","urn"] "x" (dBlt bRange (dCons (dLoc "wide") (dNil))) (dCall d__law_from (dCons (dLoc "urn") (dCons (dBin oAdd (dLoc "most") (dVal (.int 1))) (dNil))))))) (sNil))))
noncomputable def d__law_rows := runBody ["urn", "wide", "high", "most"] [] 4 b__law_rows
noncomputable def b_Plane_init : SDen := sSeq (sSet "width" (dLoc "self") (dLoc "width")) (sSeq (sSet "height" (dLoc "self") (dLoc "height")) (sSeq (sSet "rows" (dLoc "self") (dLoc "rows")) (sNil)))
noncomputable def d_Plane_init := runBody ["self", "width", "height", "rows"] [] 4 b_Plane_init
noncomputable def b_Grid_init : SDen := sSeq (sSet "many" (dLoc "self") (dBin oMul (dAttr "n" (dLoc "frame")) (dAttr "n" (dLoc "frame")))) (sSeq (sSet "planes" (dLoc "self") (dListG dNil)) (sSeq (sFor "place" (dBlt bRange (dCons (dBlt bLen (dCons (dAttr "components" (dLoc "frame")) (dNil))) (dNil))) (sSeq (sUnp ["across", "down"] (dMeth "padded" (fun C => if C = 669 then some d_Frame_padded else none) (dLoc "frame") (dCons (dLoc "place") (dNil)))) (sSeq (sExpr (dPush (dAttr "planes" (dLoc "self")) (dComp ["across"] "y" (dBlt bRange (dCons (dLoc "down") (dNil))) (dTimesM (dList (dCons (dVal .none) (dNil))) (dLoc "across"))))) (sNil)))) (sNil)))
noncomputable def d_Grid_init := runBody ["self", "frame"] [] 2 b_Grid_init
noncomputable def b__law_block : SDen := sSeq (sAsg "found" (dList (dNil))) (sSeq (sFor "line" (dBlt bRange (dCons (dBin oMul (dLoc "y") (dLoc "n")) (dCons (dBin oAdd (dBin oMul (dLoc "y") (dLoc "n")) (dLoc "n")) (dNil)))) (sSeq (sAsg "row" (dItem (dLoc "rows") (dBlt bMin2 (dCons (dLoc "line") (dCons (dBin oSub (dBlt bLen (dCons (dLoc "rows") (dNil))) (dVal (.int 1))) (dNil)))))) (sSeq (sAsg "found" (dBin oCat (dLoc "found") (dComp ["middle","row"] "spot" (dBlt bRange (dCons (dBin oMul (dLoc "x") (dLoc "n")) (dCons (dBin oAdd (dBin oMul (dLoc "x") (dLoc "n")) (dLoc "n")) (dNil)))) (dBin oSub (dItem (dLoc "row") (dBlt bMin2 (dCons (dLoc "spot") (dCons (dBin oSub (dBlt bLen (dCons (dLoc "row") (dNil))) (dVal (.int 1))) (dNil))))) (dLoc "middle"))))) (sNil)))) (sSeq (sRet (dLoc "found")) (sNil)))
noncomputable def d__law_block := runBody ["rows", "x", "y", "n", "middle"] [] 5 b__law_block
noncomputable def b__law_rounded : SDen := sSeq (sAsg "size" (dBin oDiv (dBin oAdd (dBin oMul (dVal (.int 2)) (dBlt bAbs (dCons (dLoc "number") (dNil)))) (dLoc "divisor")) (dBin oMul (dVal (.int 2)) (dLoc "divisor")))) (sSeq (sRet (dIf (dTest (dBin oGt (dLoc "number") (dVal (.int 0)))) (dLoc "size") (dBin oSub (dVal (.int 0)) (dLoc "size")))) (sNil))
noncomputable def d__law_rounded := runBody ["number", "divisor"] [] 2 b__law_rounded
noncomputable def b__law_sums : SDen := sSeq (sIf (dTest (dBin oEq (dLoc "n") (dVal (.int 1)))) (sSeq (sRet (dLoc "block")) (sNil)) (sNil)) (sSeq (sUnp ["a", "b", "c", "d"] (dLoc "block")) (sSeq (sRet (dList (dCons (dBin oAdd (dBin oAdd (dBin oAdd (dLoc "a") (dLoc "b")) (dLoc "c")) (dLoc "d")) (dCons (dBin oSub (dBin oAdd (dBin oSub (dLoc "a") (dLoc "b")) (dLoc "c")) (dLoc "d")) (dCons (dBin oSub (dBin oSub (dBin oAdd (dLoc "a") (dLoc "b")) (dLoc "c")) (dLoc "d")) (dCons (dBin oAdd (dBin oSub (dBin oSub (dLoc "a") (dLoc "b")) (dLoc "c")) (dLoc "d")) (dNil))))))) (sNil)))
noncomputable def d__law_sums := runBody ["block", "n"] [] 2 b__law_sums
noncomputable def b__law_is_block : SDen := sSeq (sIf (tOr (dTest (dBin oNe (dBlt bLen (dCons (dLoc "told") (dNil))) (dBin oMul (dLoc "n") (dLoc "n")))) (dTest (dBin oNe (dItem (dLoc "told") (dVal (.int 0))) (dCall d__law_rounded (dCons (dBlt bSum (dCons (dLoc "block") (dNil))) (dCons (dBin oMul (dLoc "n") (dItem (dLoc "table") (dVal (.int 0)))) (dNil))))))) (sSeq (sRet (dVal (.bool false))) (sNil)) (sNil)) (sSeq (sIf (dTest (dBin oLt (dLoc "n") (dVal (.int 3)))) (sSeq (sRet (dBin oEq (dLoc "told") (dCompZ ["n"] "total" "divisor" (dCons (dCall d__law_sums (dCons (dLoc "block") (dCons (dLoc "n") (dNil)))) (dCons (dLoc "table") (dNil))) (dCall d__law_rounded (dCons (dLoc "total") (dCons (dBin oMul (dLoc "n") (dLoc "divisor")) (dNil))))))) (sNil)) (sNil)) (sSeq (sRet ((fun ρ st => (dTest (dBin oLt (dBlt bMinL (dCons (dLoc "block") (dNil))) (dBlt bMaxL (dCons (dLoc "block") (dNil)))) ρ st).bind fun p => if p.1 then some (.bool true, p.2) else (dBin oEq (dSlice (dLoc "told") (pSome (dVal (.int 1))) pNone pNone) (dBin oTimes (dList (dCons (dVal (.int 0)) (dNil))) (dBin oSub (dBin oMul (dLoc "n") (dLoc "n")) (dVal (.int 1))))) ρ p.2))) (sNil)))
noncomputable def d__law_is_block := runBody ["told", "block", "table", "n"] [] 4 b__law_is_block
noncomputable def b__law_component_right : SDen := sSeq (sUnp ["wide", "high"] (dMeth "plane_size" (fun C => if C = 669 then some d_Frame_plane_size else none) (dLoc "frame") (dCons (dVal (.int 1)) (dNil)))) (sSeq (sUnpR ["rows", "middle"] (dTup (dCons (dCall d__law_rows (dCons (dLoc "urn") (dCons (dLoc "wide") (dCons (dLoc "high") (dCons (dBin oSub (dBin oPow (dVal (.int 2)) (dLoc "bits")) (dVal (.int 1))) (dNil)))))) (dCons (dBin oPow (dVal (.int 2)) (dBin oSub (dLoc "bits") (dVal (.int 1)))) (dNil))))) (sSeq (sUnpR ["plane", "grid"] (dTup (dCons (dNew 737 d_Plane_init (dCons (dLoc "wide") (dCons (dLoc "high") (dCons (dComp [] "row" (dLoc "rows") (dBlt bList (dCons (dLoc "row") (dNil)))) (dNil))))) (dCons (dNew 702 d_Grid_init (dCons (dLoc "frame") (dNil))) (dNil))))) (sSeq (sExpr (dCall d_put_component (dCons (dLoc "frame") (dCons (dLoc "grid") (dCons (dVal (.int 1)) (dCons (dLoc "plane") (dCons (dLoc "table") (dNil)))))))) (sSeq (sIf (dTest (dBin oNe (dAttr "rows" (dLoc "plane")) (dLoc "rows"))) (sSeq (sRet (dVal (.bool false))) (sNil)) (sNil)) (sSeq (sUnp ["across", "down"] (dMeth "padded" (fun C => if C = 669 then some d_Frame_padded else none) (dLoc "frame") (dCons (dVal (.int 1)) (dNil)))) (sSeq (sFor "y" (dBlt bRange (dCons (dLoc "down") (dNil))) (sSeq (sFor "x" (dBlt bRange (dCons (dLoc "across") (dNil))) (sSeq (sAsg "block" (dCall d__law_block (dCons (dLoc "rows") (dCons (dLoc "x") (dCons (dLoc "y") (dCons (dLoc "n") (dCons (dLoc "middle") (dNil)))))))) (sSeq (sAsg "told" (dItem (dItem (dItem (dAttr "planes" (dLoc "grid")) (dVal (.int 1))) (dLoc "y")) (dLoc "x"))) (sSeq (sIf (tOr (dTest (dBin oGe (dBin oMul (dLoc "x") (dLoc "n")) (dLoc "wide"))) (dTest (dBin oGe (dBin oMul (dLoc "y") (dLoc "n")) (dLoc "high")))) (sSeq (sIf (dTest (dBin oIsNotNone (dLoc "told") (dVal .none))) (sSeq (sRet (dVal (.bool false))) (sNil)) (sNil)) (sNil)) (sSeq (sIf (tOr (tNot (dTest (dCall d__law_is_block (dCons (dLoc "told") (dCons (dLoc "block") (dCons (dLoc "table") (dCons (dLoc "n") (dNil)))))))) (dTest (dBin oNe (dLoc "told") (dCall d_coded_block (dCons (dLoc "plane") (dCons (dLoc "x") (dCons (dLoc "y") (dCons (dLoc "n") (dCons (dLoc "middle") (dCons (dLoc "table") (dNil))))))))))) (sSeq (sRet (dVal (.bool false))) (sNil)) (sNil)) (sNil))) (sNil))))) (sNil))) (sSeq (sRet (dBin oEq (dComp2 (dItem (dAttr "planes" (dLoc "grid")) (dVal (.int 0)))) (dList (dNil)))) (sNil))))))))
noncomputable def d__law_component_right := runBody ["urn", "frame", "table", "bits", "n"] [] 5 b__law_component_right
noncomputable def b_law : SDen := sSeq (sFor "at" (dBlt bRange (dCons (dBlt bMax2 (dCons (dVal (.int 1)) (dCons (dBlt bMin2 (dCons (dVal (.int 2)) (dCons (dBlt bLen (dCons (dLoc "script") (dNil))) (dNil)))) (dNil)))) (dNil))) (sSeq (sAsg "urn" (dCall d__law_urn (dCons (dLoc "script") (dCons (dLoc "at") (dNil))))) (sSeq (sUnpR ["n", "bits", "quality"] (dTup (dCons (dItem (dList (dCons (dVal (.int 2)) (dCons (dVal (.int 1)) (dCons (dVal (.int 2)) (dCons (dVal (.int 4)) (dCons (dVal (.int 8)) (dNil))))))) (dCall d__law_from (dCons (dLoc "urn") (dCons (dVal (.int 5)) (dNil))))) (dCons (dItem (dList (dCons (dVal (.int 8)) (dCons (dVal (.int 12)) (dNil)))) (dCall d__law_from (dCons (dLoc "urn") (dCons (dVal (.int 2)) (dNil))))) (dCons (dBin oAdd (dVal (.int 1)) (dCall d__law_from (dCons (dLoc "urn") (dCons (dVal (.int 100)) (dNil))))) (dNil)))))) (sSeq (sOwn "pair" (dCons (dNew 603 d_Component_init (dCons (dVal (.int 1)) (dCons (dBin oAdd (dVal (.int 1)) (dCall d__law_from (dCons (dLoc "urn") (dCons (dVal (.int 2)) (dNil))))) (dCons (dBin oAdd (dVal (.int 1)) (dCall d__law_from (dCons (dLoc "urn") (dCons (dVal (.int 2)) (dNil))))) (dCons (dVal (.int 0)) (dNil)))))) (dNil))) (sSeq (sPush "pair" (dNew 603 d_Component_init (dCons (dVal (.int 2)) (dCons (dBin oAdd (dVal (.int 1)) (dCall d__law_from (dCons (dLoc "urn") (dCons (dVal (.int 2)) (dNil))))) (dCons (dBin oAdd (dVal (.int 1)) (dCall d__law_from (dCons (dLoc "urn") (dCons (dVal (.int 2)) (dNil))))) (dCons (dVal (.int 1)) (dNil))))))) (sSeq (sAsg "kind" (dIf (dTest (dBin oEq (dLoc "bits") (dVal (.int 8)))) (dVal (.str "baseline")) (dVal (.str "extended")))) (sFreeze "pair" (sSeq (sAsg "frame" (dNew 669 d_Frame_init (dCons (dLoc "kind") (dCons (dLoc "bits") (dCons (dBin oAdd (dVal (.int 1)) (dCall d__law_from (dCons (dLoc "urn") (dCons (dVal (.int 6)) (dNil))))) (dCons (dBin oAdd (dVal (.int 1)) (dCall d__law_from (dCons (dLoc "urn") (dCons (dVal (.int 6)) (dNil))))) (dCons (dLoc "pair") (dCons (dLoc "n") (dNil))))))))) (sSeq (sAsg "told" (dCall d_made_tables (dCons (dLoc "frame") (dCons (dNew 767 d_Settings_init (dCons (dLoc "kind") (dCons (dLoc "quality") (dNil)))) (dNil))))) (sSeq (sAsg "most" (dIf (dTest (dBin oEq (dLoc "bits") (dVal (.int 8)))) (dVal (.int 255)) (dVal (.int 65535)))) (sSeq (sAsg "due" (dDict2 0 1 (dCall d__law_divisors (dCons (dCall d_luma (dCons (dLoc "n") (dNil))) (dCons (dLoc "quality") (dCons (dLoc "most") (dNil))))) (dCall d__law_divisors (dCons (dCall d_chroma (dCons (dLoc "n") (dNil))) (dCons (dLoc "quality") (dCons (dLoc "most") (dNil))))))) (sSeq (sIf (tOr (tNeDict (dAttr "quant" (dLoc "told")) (dLoc "due")) (tNot (dTest (dCall d__law_component_right (dCons (dLoc "urn") (dCons (dLoc "frame") (dCons (dItem (dLoc "due") (dVal (.int 1))) (dCons (dLoc "bits") (dCons (dLoc "n") (dNil)))))))))) (sSeq (sRet (dVal (.bool false))) (sNil)) (sNil)) (sNil))))))))))))) (sSeq (sRet (dVal (.bool true))) (sNil))
noncomputable def d_law := runBody ["script"] [] 1 b_law
end Mine
namespace Mine
structure Facts (c : Cx) : Prop where
  b_len : GlobBlt c "len" (.builtin "len")
  b_abs : GlobBlt c "abs" (.builtin "abs")
  f_778 : FnIs c 778 (fn1 pw 81)
  s_kind : ∀ C ∈ classList, storeOk1 c.K C "kind" = true
  s_precision : ∀ C ∈ classList, storeOk1 c.K C "precision" = true
  s_height : ∀ C ∈ classList, storeOk1 c.K C "height" = true
  s_width : ∀ C ∈ classList, storeOk1 c.K C "width" = true
  s_components : ∀ C ∈ classList, storeOk1 c.K C "components" = true
  s_n : ∀ C ∈ classList, storeOk1 c.K C "n" = true
  f_621 : FnIs c 621 (fn2 pw 71 0)
  s_quant : ∀ C ∈ classList, storeOk1 c.K C "quant" = true
  s_codes : ∀ C ∈ classList, storeOk1 c.K C "codes" = true
  s_conditioning : ∀ C ∈ classList, storeOk1 c.K C "conditioning" = true
  f_365 : FnIs c 365 (fn2 pw 27 0)
  b_min : GlobBlt c "min" (.builtin "min")
  b_max : GlobBlt c "max" (.builtin "max")
  b_tuple : GlobBlt c "tuple" (.type "tuple")
  f_38 : FnIs c 38 (fn1 pw 5)
  f_33 : FnIs c 33 (fn1 pw 4)
  g_quality_scale : GlobRef c "quality_scale" 33
  g_scaled_by : GlobRef c "scaled_by" 38
  f_45 : FnIs c 45 (fn1 pw 6)
  b_range : GlobBlt c "range" (.type "range")
  f_91 : FnIs c 91 (fn1 pw 12)
  v_ORDER_8 : GlobIs c "ORDER_8" vORDER_8
  g_zigzag_places : GlobRef c "zigzag_places" 91
  f_316 : FnIs c 316 (fn1 pw 14)
  g_order : GlobRef c "order" 316
  f_321 : FnIs c 321 (fn1 pw 15)
  v_CHROMA_LOW : GlobIs c "CHROMA_LOW" vCHROMA_LOW
  v_CHROMA_HIGH : GlobIs c "CHROMA_HIGH" (.int 99)
  f_330 : FnIs c 330 (fn1 pw 21)
  v_SIDE_std_quant : GlobIs c "SIDE_std_quant" (.int 8)
  v_LUMA : GlobIs c "LUMA" vLUMA
  g_chroma_at : GlobRef c "chroma_at" 330
  f_337 : FnIs c 337 (fn1 pw 22)
  g_picked_std_quant : GlobRef c "picked_std_quant" 337
  g_to_row : GlobRef c "to_row" 321
  f_351 : FnIs c 351 (fn1 pw 25)
  f_344 : FnIs c 344 (fn1 pw 24)
  a_precision : ∀ C ∈ classList, attrOk c.K C "precision" = true
  g_Tables : GlobRef c "Tables" 382
  i_Tables : initOk c.K 382 365 = true
  a_components : ∀ C ∈ classList, attrOk c.K C "components" = true
  a_quant : ∀ C ∈ classList, attrOk c.K C "quant" = true
  a_n : ∀ C ∈ classList, attrOk c.K C "n" = true
  g_chroma : GlobRef c "chroma" 351
  g_luma : GlobRef c "luma" 344
  a_quality : ∀ C ∈ classList, attrOk c.K C "quality" = true
  g_scaled_table : GlobRef c "scaled_table" 45
  f_565 : FnIs c 565 (fn1 pw 65)
  s_ident : ∀ C ∈ classList, storeOk1 c.K C "ident" = true
  s_across : ∀ C ∈ classList, storeOk1 c.K C "across" = true
  s_down : ∀ C ∈ classList, storeOk1 c.K C "down" = true
  f_600 : FnIs c 600 (fn2 pw 70 0)
  v_KINDS : GlobIs c "KINDS" vKINDS
  s_quality : ∀ C ∈ classList, storeOk1 c.K C "quality" = true
  s_sampling : ∀ C ∈ classList, storeOk1 c.K C "sampling" = true
  s_interval : ∀ C ∈ classList, storeOk1 c.K C "interval" = true
  s_optimise : ∀ C ∈ classList, storeOk1 c.K C "optimise" = true
  s_scans : ∀ C ∈ classList, storeOk1 c.K C "scans" = true
  s_model : ∀ C ∈ classList, storeOk1 c.K C "model" = true
  f_764 : FnDef c 764 (fn2 pw 79 0)
  f_792 : FnIs c 792 (fn1 pw 83)
  g__law_hundredths : GlobRef c "_law_hundredths" 792
  f_797 : FnIs c 797 (fn1 pw 84)
  f_785 : FnIs c 785 (fn1 pw 82)
  f_586 : FnIs c 586 (fn1 pw 69)
  a_across : ∀ C ∈ classList, attrOk c.K C "across" = true
  f_626 : FnIs c 626 (fn2 pw 71 1)
  a_down : ∀ C ∈ classList, attrOk c.K C "down" = true
  f_631 : FnIs c 631 (fn2 pw 71 2)
  a_width : ∀ C ∈ classList, attrOk c.K C "width" = true
  m_669_most_across : methOk c.K 669 "most_across" 626 = true
  g_parts : GlobRef c "parts" 586
  a_height : ∀ C ∈ classList, attrOk c.K C "height" = true
  m_669_most_down : methOk c.K 669 "most_down" 631 = true
  f_652 : FnIs c 652 (fn2 pw 71 5)
  m_669_plane_size : methOk c.K 669 "plane_size" 652 = true
  f_659 : FnIs c 659 (fn2 pw 71 6)
  a_planes : ∀ C ∈ classList, attrOk c.K C "planes" = true
  b_list : GlobBlt c "list" (.type "list")
  f_699 : FnIs c 699 (fn2 pw 73 2)
  f_52 : FnIs c 52 (fn1 pw 7)
  f_414 : FnIs c 414 (fn1 pw 37)
  v_C_0_541 : GlobIs c "C_0_541" (.int 4433)
  v_C_0_765 : GlobIs c "C_0_765" (.int 6270)
  v_C_1_847 : GlobIs c "C_1_847" (.int 15137)
  f_400 : FnIs c 400 (fn1 pw 35)
  v_C_1_175 : GlobIs c "C_1_175" (.int 9633)
  v_C_0_899 : GlobIs c "C_0_899" (.int 7373)
  v_C_2_562 : GlobIs c "C_2_562" (.int 20995)
  v_C_1_961 : GlobIs c "C_1_961" (.int 16069)
  v_C_0_390 : GlobIs c "C_0_390" (.int 3196)
  v_C_0_298 : GlobIs c "C_0_298" (.int 2446)
  v_C_2_053 : GlobIs c "C_2_053" (.int 16819)
  v_C_3_072 : GlobIs c "C_3_072" (.int 25172)
  v_C_1_501 : GlobIs c "C_1_501" (.int 12299)
  f_421 : FnIs c 421 (fn1 pw 50)
  f_393 : FnIs c 393 (fn1 pw 34)
  g_even_forward : GlobRef c "even_forward" 400
  g_odd_flow : GlobRef c "odd_flow" 421
  g_descaled : GlobRef c "descaled" 393
  f_426 : FnIs c 426 (fn1 pw 51)
  v_SIDE_dct_islow : GlobIs c "SIDE_dct_islow" (.int 8)
  v_PASS_BITS : GlobIs c "PASS_BITS" (.int 2)
  v_CONST_BITS : GlobIs c "CONST_BITS" (.int 13)
  g_forward_row : GlobRef c "forward_row" 426
  g_turned : GlobRef c "turned" 414
  f_445 : FnIs c 445 (fn2 pw 53 0)
  v_SIDE_dct_small : GlobIs c "SIDE_dct_small" (.int 4)
  f_473 : FnIs c 473 (fn2 pw 56 0)
  f_509 : FnIs c 509 (fn2 pw 57 2)
  m_512_sums : methOk c.K 512 "sums" 509 = true
  f_497 : FnIs c 497 (fn2 pw 57 0)
  f_530 : FnIs c 530 (fn2 pw 58 0)
  g_IslowDct : GlobRef c "IslowDct" 455
  i_IslowDct : init0Ok c.K 455 = true
  g_FourDct : GlobRef c "FourDct" 481
  i_FourDct : init0Ok c.K 481 = true
  g_TwoDct : GlobRef c "TwoDct" 512
  i_TwoDct : init0Ok c.K 512 = true
  g_OneDct : GlobRef c "OneDct" 540
  i_OneDct : init0Ok c.K 540 = true
  f_551 : FnIs c 551 (fn1 pw 61)
  g_picked_transform : GlobRef c "picked_transform" 551
  m_540_forward : methOk c.K 540 "forward" 530 = true
  m_512_forward : methOk c.K 512 "forward" 497 = true
  m_481_forward : methOk c.K 481 "forward" 473 = true
  m_455_forward : methOk c.K 455 "forward" 445 = true
  f_558 : FnIs c 558 (fn1 pw 63)
  f_748 : FnIs c 748 (fn1 pw 76)
  a_rows : ∀ C ∈ classList, attrOk c.K C "rows" = true
  g_kept_in : GlobRef c "kept_in" 748
  f_727 : FnIs c 727 (fn2 pw 75 1)
  m_737_at : methOk c.K 737 "at" 727 = true
  f_26 : FnIs c 26 (fn1 pw 2)
  g_block_of : GlobRef c "block_of" 26
  g_forward : GlobRef c "forward" 558
  v_SCALE : GlobIs c "SCALE" (.int 8)
  g_quantise : GlobRef c "quantise" 52
  f_572 : FnIs c 572 (fn1 pw 66)
  m_669_blocks : methOk c.K 669 "blocks" 659 = true
  g_coded_block : GlobRef c "coded_block" 572
  m_702_put : methOk c.K 702 "put" 699 = true
  f_579 : FnIs c 579 (fn1 pw 67)
  f_638 : FnIs c 638 (fn2 pw 71 3)
  f_645 : FnIs c 645 (fn2 pw 71 4)
  m_669_mcus_across : methOk c.K 669 "mcus_across" 638 = true
  m_669_mcus_down : methOk c.K 669 "mcus_down" 645 = true
  f_666 : FnIs c 666 (fn2 pw 71 7)
  g__law_from : GlobRef c "_law_from" 785
  f_809 : FnIs c 809 (fn1 pw 86)
  s_rows : ∀ C ∈ classList, storeOk1 c.K C "rows" = true
  f_720 : FnIs c 720 (fn2 pw 75 0)
  s_many : ∀ C ∈ classList, storeOk1 c.K C "many" = true
  s_planes : ∀ C ∈ classList, storeOk1 c.K C "planes" = true
  m_669_padded : methOk c.K 669 "padded" 666 = true
  f_685 : FnIs c 685 (fn2 pw 73 0)
  f_814 : FnIs c 814 (fn1 pw 87)
  f_804 : FnIs c 804 (fn1 pw 85)
  f_821 : FnIs c 821 (fn1 pw 88)
  b_sum : GlobBlt c "sum" (.builtin "sum")
  g__law_rounded : GlobRef c "_law_rounded" 804
  g__law_sums : GlobRef c "_law_sums" 821
  b_zip : GlobBlt c "zip" (.type "zip")
  f_826 : FnIs c 826 (fn1 pw 89)
  g__law_rows : GlobRef c "_law_rows" 809
  g_Plane : GlobRef c "Plane" 737
  i_Plane : initOk c.K 737 720 = true
  g_Grid : GlobRef c "Grid" 702
  i_Grid : initOk c.K 702 685 = true
  g_put_component : GlobRef c "put_component" 579
  g__law_block : GlobRef c "_law_block" 814
  g__law_is_block : GlobRef c "_law_is_block" 826
  f_831 : FnIs c 831 (fn1 pw 90)
  g__law_urn : GlobRef c "_law_urn" 778
  g_Component : GlobRef c "Component" 603
  i_Component : initOk c.K 603 600 = true
  g_Frame : GlobRef c "Frame" 669
  i_Frame : initOk c.K 669 621 = true
  g_Settings : GlobRef c "Settings" 767
  i_Settings : initOk c.K 767 764 = true
  g_made_tables : GlobRef c "made_tables" 565
  g__law_divisors : GlobRef c "_law_divisors" 797
  g__law_component_right : GlobRef c "_law_component_right" 831
  f_838 : FnIs c 838 (fn1 pw 91)
theorem s__law_urn {c : Cx} (H : Facts c) : FSound c 1 778 d__law_urn := fn_plain H.f_778 rfl rfl rfl rfl (show SSound c 0 _ _ b__law_urn from ss_cons (x_asg (hs := by intro _; rfl) (e_if (t_cmp ok_lt (e_loc (hd := by decide +kernel) (hn := by decide +kernel)) (e_callB (hp := by intro _; rfl) (hd := by decide +kernel) H.b_len (.inl ⟨_, rfl⟩) ok_len (es_cons (he := by intro _; rfl) (e_loc (hd := by decide +kernel) (hn := by decide +kernel)) (es_nil)) rfl (noStar1 (he := by intro _; exact ⟨_, _, rfl⟩)))) (e_callB (hp := by intro _; rfl) (hd := by decide +kernel) H.b_abs (.inl ⟨_, rfl⟩) ok_abs (es_cons (he := by intro _; rfl) (e_item (hs := by intro _ _; rfl) (e_loc (hd := by decide +kernel) (hn := by decide +kernel)) (e_loc (hd := by decide +kernel) (hn := by decide +kernel))) (es_nil)) rfl (noStar1 (he := by intro _; exact ⟨_, _, rfl⟩))) (e_int)) (by decide +kernel)) (ss_cons (x_ret (e_listM (es_cons (he := by intro _; rfl) (e_loc (hd := by decide +kernel) (hn := by decide +kernel)) (es_cons (he := by intro _; rfl) (e_bin ok_add (e_bin ok_add (e_bin ok_mod (e_loc (hd := by decide +kernel) (hn := by decide +kernel)) (e_int)) (e_bin ok_mul (e_int) (e_loc (hd := by decide +kernel) (hn := by decide +kernel)))) (e_int)) (es_nil))))) (ss_nil)))
theorem s_Frame_init {c : Cx} (H : Facts c) : FSound c 1 621 d_Frame_init := fn_plain H.f_621 rfl rfl rfl rfl (show SSound c 0 _ _ b_Frame_init from ss_cons (x_set (hs := by intro _; rfl) (e_loc (hd := by decide +kernel) (hn := by decide +kernel)) (e_loc (hd := by decide +kernel) (hn := by decide +kernel)) H.s_kind) (ss_cons (x_set (hs := by intro _; rfl) (e_loc (hd := by decide +kernel) (hn := by decide +kernel)) (e_loc (hd := by decide +kernel) (hn := by decide +kernel)) H.s_precision) (ss_cons (x_set (hs := by intro _; rfl) (e_loc (hd := by decide +kernel) (hn := by decide +kernel)) (e_loc (hd := by decide +kernel) (hn := by decide +kernel)) H.s_height) (ss_cons (x_set (hs := by intro _; rfl) (e_loc (hd := by decide +kernel) (hn := by decide +kernel)) (e_loc (hd := by decide +kernel) (hn := by decide +kernel)) H.s_width) (ss_cons (x_set (hs := by intro _; rfl) (e_loc (hd := by decide +kernel) (hn := by decide +kernel)) (e_loc (hd := by decide +kernel) (hn := by decide +kernel)) H.s_components) (ss_cons (x_set (hs := by intro _; rfl) (e_loc (hd := by decide +kernel) (hn := by decide +kernel)) (e_loc (hd := by decide +kernel) (hn := by decide +kernel)) H.s_n) (ss_nil)))))))
theorem s_Tables_init {c : Cx} (H : Facts c) : FSound c 1 365 d_Tables_init := fn_plain H.f_365 rfl rfl rfl rfl (show SSound c 0 _ _ b_Tables_init from ss_cons (x_set (hs := by intro _; rfl) (e_dict0) (e_loc (hd := by decide +kernel) (hn := by decide +kernel)) H.s_quant) (ss_cons (x_set (hs := by intro _; rfl) (e_dict0) (e_loc (hd := by decide +kernel) (hn := by decide +kernel)) H.s_codes) (ss_cons (x_set (hs := by intro _; rfl) (e_dict0) (e_loc (hd := by decide +kernel) (hn := by decide +kernel)) H.s_conditioning) (ss_nil))))
theorem s_scaled_by {c : Cx} (H : Facts c) : FSound c 1 38 d_scaled_by := fn_plain H.f_38 rfl rfl rfl rfl (show SSound c 0 _ _ b_scaled_by from ss_cons (x_ret (e_callB (hp := by intro _; rfl) (hd := by decide +kernel) H.b_tuple (.inr ⟨_, rfl⟩) ok_tuple (es_cons (he := by intro _; rfl) (e_comp (hs := by intro _ _; rfl) (e_loc (hd := by decide +kernel) (hn := by decide +kernel)) (e_callB (hp := by intro _; rfl) (hd := by decide +kernel) H.b_max (.inl ⟨_, rfl⟩) ok_max2 (es_cons (he := by intro _; rfl) (e_int) (es_cons (he := by intro _; rfl) (e_callB (hp := by intro _; rfl) (hd := by decide +kernel) H.b_min (.inl ⟨_, rfl⟩) ok_min2 (es_cons (he := by intro _; rfl) (e_loc (hd := by decide +kernel) (hn := by decide +kernel)) (es_cons (he := by intro _; rfl) (e_bin ok_div (e_bin ok_add (e_bin ok_mul (e_loc (hd := by decide +kernel) (hn := by decide +kernel)) (e_loc (hd := by decide +kernel) (hn := by decide +kernel))) (e_int)) (e_int)) (es_nil))) rfl (noStar1 (he := by intro _; exact ⟨_, _, rfl⟩))) (es_nil))) rfl (noStar1 (he := by intro _; exact ⟨_, _, rfl⟩))) rfl rfl rfl) (es_nil)) rfl (noStar1 (he := by intro _; exact ⟨_, _, rfl⟩)))) (ss_nil))
theorem s_quality_scale {c : Cx} (H : Facts c) : FSound c 1 33 d_quality_scale := fn_plain H.f_33 rfl rfl rfl rfl (show SSound c 0 _ _ b_quality_scale from ss_cons (x_asg (hs := by intro _; rfl) (e_callB (hp := by intro _; rfl) (hd := by decide +kernel) H.b_max (.inl ⟨_, rfl⟩) ok_max2 (es_cons (he := by intro _; rfl) (e_int) (es_cons (he := by intro _; rfl) (e_callB (hp := by intro _; rfl) (hd := by decide +kernel) H.b_min (.inl ⟨_, rfl⟩) ok_min2 (es_cons (he := by intro _; rfl) (e_int) (es_cons (he := by intro _; rfl) (e_loc (hd := by decide +kernel) (hn := by decide +kernel)) (es_nil))) rfl (noStar1 (he := by intro _; exact ⟨_, _, rfl⟩))) (es_nil))) rfl (noStar1 (he := by intro _; exact ⟨_, _, rfl⟩))) (by decide +kernel)) (ss_cons (x_ret (e_if (t_cmp ok_lt (e_loc (hd := by decide +kernel) (hn := by decide +kernel)) (e_int)) (e_bin ok_div (e_int) (e_loc (hd := by decide +kernel) (hn := by decide +kernel))) (e_bin ok_sub (e_int) (e_bin ok_mul (e_int) (e_loc (hd := by decide +kernel) (hn := by decide +kernel)))))) (ss_nil)))
theorem s_scaled_table {c : Cx} (H : Facts c) : FSound c 2 45 d_scaled_table := fn_plain H.f_45 rfl rfl rfl rfl (show SSound c 1 _ _ b_scaled_table from ss_cons (x_ret (e_callF (hd := by decide +kernel) (globFn H.g_scaled_by H.f_38) (s_scaled_by H) (by decide) (es_cons (he := by intro _; rfl) (e_loc (hd := by decide +kernel) (hn := by decide +kernel)) (es_cons (he := by intro _; rfl) (e_callF (hd := by decide +kernel) (globFn H.g_quality_scale H.f_33) (s_quality_scale H) (by decide) (es_cons (he := by intro _; rfl) (e_loc (hd := by decide +kernel) (hn := by decide +kernel)) (es_nil)) rfl (noStar1 (he := by intro _; exact ⟨_, _, rfl⟩))) (es_cons (he := by intro _; rfl) (e_loc (hd := by decide +kernel) (hn := by decide +kernel)) (es_nil)))) rfl (noStar1 (he := by intro _; exact ⟨_, _, rfl⟩)))) (ss_nil))
theorem s_zigzag_places {c : Cx} (H : Facts c) : FSound c 1 91 d_zigzag_places := fn_plain H.f_91 rfl rfl rfl rfl (show SSound c 0 _ _ b_zigzag_places from ss_cons (x_own (es_nil) (by decide +kernel)) (ss_cons (x_for (hs := by intro _ _; rfl) (e_callB (hp := by intro _; rfl) (hd := by decide +kernel) H.b_range (.inr ⟨_, rfl⟩) ok_range (es_cons (he := by intro _; rfl) (e_bin ok_sub (e_bin ok_mul (e_int) (e_loc (hd := by decide +kernel) (hn := by decide +kernel))) (e_int)) (es_nil)) rfl (noStar1 (he := by intro _; exact ⟨_, _, rfl⟩))) (ss_cons (x_asg (hs := by intro _; rfl) (e_callB (hp := by intro _; rfl) (hd := by decide +kernel) H.b_max (.inl ⟨_, rfl⟩) ok_max2 (es_cons (he := by intro _; rfl) (e_int) (es_cons (he := by intro _; rfl) (e_bin ok_add (e_bin ok_sub (e_loc (hd := by decide +kernel) (hn := by decide +kernel)) (e_loc (hd := by decide +kernel) (hn := by decide +kernel))) (e_int)) (es_nil))) rfl (noStar1 (he := by intro _; exact ⟨_, _, rfl⟩))) (by decide +kernel)) (ss_cons (x_asg (hs := by intro _; rfl) (e_callB (hp := by intro _; rfl) (hd := by decide +kernel) H.b_min (.inl ⟨_, rfl⟩) ok_min2 (es_cons (he := by intro _; rfl) (e_loc (hd := by decide +kernel) (hn := by decide +kernel)) (es_cons (he := by intro _; rfl) (e_bin ok_sub (e_loc (hd := by decide +kernel) (hn := by decide +kernel)) (e_int)) (es_nil))) rfl (noStar1 (he := by intro _; exact ⟨_, _, rfl⟩))) (by decide +kernel)) (ss_cons (x_asg (hs := by intro _; rfl) (e_if (t_cmp ok_eq (e_bin ok_mod (e_loc (hd := by decide +kernel) (hn := by decide +kernel)) (e_int)) (e_int)) (e_callB (hp := by intro _; rfl) (hd := by decide +kernel) H.b_range (.inr ⟨_, rfl⟩) ok_range (es_cons (he := by intro _; rfl) (e_loc (hd := by decide +kernel) (hn := by decide +kernel)) (es_cons (he := by intro _; rfl) (e_bin ok_add (e_loc (hd := by decide +kernel) (hn := by decide +kernel)) (e_int)) (es_nil))) rfl (noStar1 (he := by intro _; exact ⟨_, _, rfl⟩))) (e_callB (hp := by intro _; rfl) (hd := by decide +kernel) H.b_range (.inr ⟨_, rfl⟩) ok_range (es_cons (he := by intro _; rfl) (e_loc (hd := by decide +kernel) (hn := by decide +kernel)) (es_cons (he := by intro _; rfl) (e_bin ok_sub (e_loc (hd := by decide +kernel) (hn := by decide +kernel)) (e_int)) (es_cons (he := by intro _; rfl) (e_neg (e_int)) (es_nil)))) rfl (noStar1 (he := by intro _; exact ⟨_, _, rfl⟩)))) (by decide +kernel)) (ss_cons (x_for (hs := by intro _ _; rfl) (e_loc (hd := by decide +kernel) (hn := by decide +kernel)) (ss_cons (x_push (he := by intro env; exact ⟨_, rfl⟩) (hp := by intro _; rfl) (hd := by decide +kernel) (hn := by decide +kernel) (es_cons (he := by intro _; rfl) (e_bin ok_sub (e_bin ok_add (e_bin ok_mul (e_loc (hd := by decide +kernel) (hn := by decide +kernel)) (e_loc (hd := by decide +kernel) (hn := by decide +kernel))) (e_loc (hd := by decide +kernel) (hn := by decide +kernel))) (e_loc (hd := by decide +kernel) (hn := by decide +kernel))) es_nil) (hns := (noStar1 (he := by intro _; exact ⟨_, _, rfl⟩)))) (ss_nil)) (by decide +kernel)) (ss_nil))))) (by decide +kernel)) (ss_freeze (x := "found") (ss_cons (x_ret (e_callB (hp := by intro _; rfl) (hd := by decide +kernel) H.b_tuple (.inr ⟨_, rfl⟩) ok_tuple (es_cons (he := by intro _; rfl) (e_loc (hd := by decide +kernel) (hn := by decide +kernel)) (es_nil)) rfl (noStar1 (he := by intro _; exact ⟨_, _, rfl⟩)))) (ss_nil)))))
theorem s_order {c : Cx} (H : Facts c) : FSound c 2 316 d_order := fn_plain H.f_316 rfl rfl rfl rfl (show SSound c 1 _ _ b_order from ss_cons (x_ret (e_if (t_cmp ok_eq (e_loc (hd := by decide +kernel) (hn := by decide +kernel)) (e_int)) (e_glob (hd := by decide +kernel) H.v_ORDER_8 rfl) (e_callF (hd := by decide +kernel) (globFn H.g_zigzag_places H.f_91) (s_zigzag_places H) (by decide) (es_cons (he := by intro _; rfl) (e_loc (hd := by decide +kernel) (hn := by decide +kernel)) (es_nil)) rfl (noStar1 (he := by intro _; exact ⟨_, _, rfl⟩))))) (ss_nil))
theorem s_to_row {c : Cx} (H : Facts c) : FSound c 3 321 d_to_row := fn_plain H.f_321 rfl rfl rfl rfl (show SSound c 2 _ _ b_to_row from ss_cons (x_ret (e_comp (hs := by intro _ _; rfl) (e_callF (hd := by decide +kernel) (globFn H.g_order H.f_316) (s_order H) (by decide) (es_cons (he := by intro _; rfl) (e_loc (hd := by decide +kernel) (hn := by decide +kernel)) (es_nil)) rfl (noStar1 (he := by intro _; exact ⟨_, _, rfl⟩))) (e_item (hs := by intro _ _; rfl) (e_loc (hd := by decide +kernel) (hn := by decide +kernel)) (e_loc (hd := by decide +kernel) (hn := by decide +kernel))) rfl rfl rfl)) (ss_nil))
theorem s_chroma_at {c : Cx} (H : Facts c) : FSound c 1 330 d_chroma_at := fn_plain H.f_330 rfl rfl rfl rfl (show SSound c 0 _ _ b_chroma_at from ss_cons (x_ret (e_if (t_and (t_cmp ok_lt (e_loc (hd := by decide +kernel) (hn := by decide +kernel)) (e_int)) (t_cmp ok_lt (e_loc (hd := by decide +kernel) (hn := by decide +kernel)) (e_int))) (e_item (hs := by intro _ _; rfl) (e_glob (hd := by decide +kernel) H.v_CHROMA_LOW rfl) (e_bin ok_add (e_bin ok_mul (e_loc (hd := by decide +kernel) (hn := by decide +kernel)) (e_int)) (e_loc (hd := by decide +kernel) (hn := by decide +kernel)))) (e_glob (hd := by decide +kernel) H.v_CHROMA_HIGH rfl))) (ss_nil))
theorem s_picked_std_quant {c : Cx} (H : Facts c) : FSound c 2 337 d_picked_std_quant := fn_plain H.f_337 rfl rfl rfl rfl (show SSound c 1 _ _ b_picked_std_quant from ss_cons (x_if (t_not (t_chain ok_le ok_le (e_int) (e_loc (hd := by decide +kernel) (hn := by decide +kernel)) (e_glob (hd := by decide +kernel) H.v_SIDE_std_quant rfl))) (ss_none) (ss_nil)) (ss_cons (x_own (es_nil) (by decide +kernel)) (ss_cons (x_for (hs := by intro _ _; rfl) (e_callB (hp := by intro _; rfl) (hd := by decide +kernel) H.b_range (.inr ⟨_, rfl⟩) ok_range (es_cons (he := by intro _; rfl) (e_loc (hd := by decide +kernel) (hn := by decide +kernel)) (es_nil)) rfl (noStar1 (he := by intro _; exact ⟨_, _, rfl⟩))) (ss_cons (x_for (hs := by intro _ _; rfl) (e_callB (hp := by intro _; rfl) (hd := by decide +kernel) H.b_range (.inr ⟨_, rfl⟩) ok_range (es_cons (he := by intro _; rfl) (e_loc (hd := by decide +kernel) (hn := by decide +kernel)) (es_nil)) rfl (noStar1 (he := by intro _; exact ⟨_, _, rfl⟩))) (ss_cons (x_unpR (hs := by intro _; rfl) (ns := [("across", _), ("down", _)]) (e_tup (es_cons (he := by intro _; rfl) (e_bin ok_div (e_bin ok_mul (e_loc (hd := by decide +kernel) (hn := by decide +kernel)) (e_glob (hd := by decide +kernel) H.v_SIDE_std_quant rfl)) (e_loc (hd := by decide +kernel) (hn := by decide +kernel))) (es_cons (he := by intro _; rfl) (e_bin ok_div (e_bin ok_mul (e_loc (hd := by decide +kernel) (hn := by decide +kernel)) (e_glob (hd := by decide +kernel) H.v_SIDE_std_quant rfl)) (e_loc (hd := by decide +kernel) (hn := by decide +kernel))) (es_nil)))) (by decide +kernel) (fun env h hb => swap2 (h _ (by simp)) (h _ (by simp)) hb rfl (by decide +kernel) rfl rfl rfl)) (ss_cons (x_push (he := by intro env; exact ⟨_, rfl⟩) (hp := by intro _; rfl) (hd := by decide +kernel) (hn := by decide +kernel) (es_cons (he := by intro _; rfl) (e_if (t_cmp ok_eq (e_loc (hd := by decide +kernel) (hn := by decide +kernel)) (e_int)) (e_item (hs := by intro _ _; rfl) (e_glob (hd := by decide +kernel) H.v_LUMA rfl) (e_bin ok_add (e_bin ok_mul (e_loc (hd := by decide +kernel) (hn := by decide +kernel)) (e_glob (hd := by decide +kernel) H.v_SIDE_std_quant rfl)) (e_loc (hd := by decide +kernel) (hn := by decide +kernel)))) (e_callF (hd := by decide +kernel) (globFn H.g_chroma_at H.f_330) (s_chroma_at H) (by decide) (es_cons (he := by intro _; rfl) (e_loc (hd := by decide +kernel) (hn := by decide +kernel)) (es_cons (he := by intro _; rfl) (e_loc (hd := by decide +kernel) (hn := by decide +kernel)) (es_nil))) rfl (noStar1 (he := by intro _; exact ⟨_, _, rfl⟩)))) es_nil) (hns := (noStar1 (he := by intro _; exact ⟨_, _, rfl⟩)))) (ss_nil))) (by decide +kernel)) (ss_nil)) (by decide +kernel)) (ss_freeze (x := "found") (ss_cons (x_ret (e_loc (hd := by decide +kernel) (hn := by decide +kernel))) (ss_nil))))))
theorem s_chroma {c : Cx} (H : Facts c) : FSound c 4 351 d_chroma := fn_plain H.f_351 rfl rfl rfl rfl (show SSound c 3 _ _ b_chroma from ss_cons (x_ret (e_callB (hp := by intro _; rfl) (hd := by decide +kernel) H.b_tuple (.inr ⟨_, rfl⟩) ok_tuple (es_cons (he := by intro _; rfl) (e_callF (hd := by decide +kernel) (globFn H.g_to_row H.f_321) (s_to_row H) (by decide) (es_cons (he := by intro _; rfl) (e_callF (hd := by decide +kernel) (globFn H.g_picked_std_quant H.f_337) (s_picked_std_quant H) (by decide) (es_cons (he := by intro _; rfl) (e_loc (hd := by decide +kernel) (hn := by decide +kernel)) (es_cons (he := by intro _; rfl) (e_int) (es_nil))) rfl (noStar1 (he := by intro _; exact ⟨_, _, rfl⟩))) (es_cons (he := by intro _; rfl) (e_loc (hd := by decide +kernel) (hn := by decide +kernel)) (es_nil))) rfl (noStar1 (he := by intro _; exact ⟨_, _, rfl⟩))) (es_nil)) rfl (noStar1 (he := by intro _; exact ⟨_, _, rfl⟩)))) (ss_nil))
theorem s_luma {c : Cx} (H : Facts c) : FSound c 4 344 d_luma := fn_plain H.f_344 rfl rfl rfl rfl (show SSound c 3 _ _ b_luma from ss_cons (x_ret (e_callB (hp := by intro _; rfl) (hd := by decide +kernel) H.b_tuple (.inr ⟨_, rfl⟩) ok_tuple (es_cons (he := by intro _; rfl) (e_callF (hd := by decide +kernel) (globFn H.g_to_row H.f_321) (s_to_row H) (by decide) (es_cons (he := by intro _; rfl) (e_callF (hd := by decide +kernel) (globFn H.g_picked_std_quant H.f_337) (s_picked_std_quant H) (by decide) (es_cons (he := by intro _; rfl) (e_loc (hd := by decide +kernel) (hn := by decide +kernel)) (es_cons (he := by intro _; rfl) (e_int) (es_nil))) rfl (noStar1 (he := by intro _; exact ⟨_, _, rfl⟩))) (es_cons (he := by intro _; rfl) (e_loc (hd := by decide +kernel) (hn := by decide +kernel)) (es_nil))) rfl (noStar1 (he := by intro _; exact ⟨_, _, rfl⟩))) (es_nil)) rfl (noStar1 (he := by intro _; exact ⟨_, _, rfl⟩)))) (ss_nil))
theorem s_made_tables {c : Cx} (H : Facts c) : FSound c 5 565 d_made_tables := fn_plain H.f_565 rfl rfl rfl rfl (show SSound c 4 _ _ b_made_tables from ss_cons (x_asg (hs := by intro _; rfl) (e_if (t_cmp ok_gt (e_attr (he := by intro _; rfl) (e_loc (hd := by decide +kernel) (hn := by decide +kernel)) H.a_precision) (e_int)) (e_int) (e_int)) (by decide +kernel)) (ss_cons (x_asg (hs := by intro _; rfl) (e_new (hp := by intro _; rfl) (hd := by decide +kernel) H.g_Tables (by decide) H.i_Tables (s_Tables_init H) (by decide) (es_nil) rfl noStar0) (by decide +kernel)) (ss_cons (x_for (hs := by intro _ _; rfl) (e_attr (he := by intro _; rfl) (e_loc (hd := by decide +kernel) (hn := by decide +kernel)) H.a_components) (ss_cons (x_asg (hs := by intro _; rfl) (e_if (t_cmp ok_eq (e_attr (he := by intro _; rfl) (e_loc (hd := by decide +kernel) (hn := by decide +kernel)) H.a_quant) (e_int)) (e_callF (hd := by decide +kernel) (globFn H.g_chroma H.f_351) (s_chroma H) (by decide) (es_cons (he := by intro _; rfl) (e_attr (he := by intro _; rfl) (e_loc (hd := by decide +kernel) (hn := by decide +kernel)) H.a_n) (es_nil)) rfl (noStar1 (he := by intro _; exact ⟨_, _, rfl⟩))) (e_callF (hd := by decide +kernel) (globFn H.g_luma H.f_344) (s_luma H) (by decide) (es_cons (he := by intro _; rfl) (e_attr (he := by intro _; rfl) (e_loc (hd := by decide +kernel) (hn := by decide +kernel)) H.a_n) (es_nil)) rfl (noStar1 (he := by intro _; exact ⟨_, _, rfl⟩)))) (by decide +kernel)) (ss_cons (x_put (hs := by intro _; rfl) (e_callF (hd := by decide +kernel) (globFn H.g_scaled_table H.f_45) (s_scaled_table H) (by decide) (es_cons (he := by intro _; rfl) (e_loc (hd := by decide +kernel) (hn := by decide +kernel)) (es_cons (he := by intro _; rfl) (e_attr (he := by intro _; rfl) (e_loc (hd := by decide +kernel) (hn := by decide +kernel)) H.a_quality) (es_cons (he := by intro _; rfl) (e_loc (hd := by decide +kernel) (hn := by decide +kernel)) (es_nil)))) rfl (noStar1 (he := by intro _; exact ⟨_, _, rfl⟩))) (e_attr (he := by intro _; rfl) (e_loc (hd := by decide +kernel) (hn := by decide +kernel)) H.a_quant) (e_attr (he := by intro _; rfl) (e_loc (hd := by decide +kernel) (hn := by decide +kernel)) H.a_quant)) (ss_nil))) (by decide +kernel)) (ss_cons (x_ret (e_loc (hd := by decide +kernel) (hn := by decide +kernel))) (ss_nil)))))
theorem s_Component_init {c : Cx} (H : Facts c) : FSound c 1 600 d_Component_init := fn_plain H.f_600 rfl rfl rfl rfl (show SSound c 0 _ _ b_Component_init from ss_cons (x_set (hs := by intro _; rfl) (e_loc (hd := by decide +kernel) (hn := by decide +kernel)) (e_loc (hd := by decide +kernel) (hn := by decide +kernel)) H.s_ident) (ss_cons (x_set (hs := by intro _; rfl) (e_loc (hd := by decide +kernel) (hn := by decide +kernel)) (e_loc (hd := by decide +kernel) (hn := by decide +kernel)) H.s_across) (ss_cons (x_set (hs := by intro _; rfl) (e_loc (hd := by decide +kernel) (hn := by decide +kernel)) (e_loc (hd := by decide +kernel) (hn := by decide +kernel)) H.s_down) (ss_cons (x_set (hs := by intro _; rfl) (e_loc (hd := by decide +kernel) (hn := by decide +kernel)) (e_loc (hd := by decide +kernel) (hn := by decide +kernel)) H.s_quant) (ss_nil)))))
theorem s_Settings_init {c : Cx} (H : Facts c) : FSound c 1 764 d_Settings_init := fn_settings H.f_764 (show SSound c 0 _ _ b_Settings_init from ss_cons (x_if (t_cmp ok_notin (e_loc (hd := by decide +kernel) (hn := by decide +kernel)) (e_glob (hd := by decide +kernel) H.v_KINDS rfl)) (ss_none) (ss_nil)) (ss_cons (x_if (t_not (t_chain ok_le ok_le (e_int) (e_loc (hd := by decide +kernel) (hn := by decide +kernel)) (e_int))) (ss_none) (ss_nil)) (ss_cons (x_if (t_not (t_chain ok_le ok_le (e_int) (e_loc (hd := by decide +kernel) (hn := by decide +kernel)) (e_int))) (ss_none) (ss_nil)) (ss_cons (x_set (hs := by intro _; rfl) (e_loc (hd := by decide +kernel) (hn := by decide +kernel)) (e_loc (hd := by decide +kernel) (hn := by decide +kernel)) H.s_kind) (ss_cons (x_set (hs := by intro _; rfl) (e_loc (hd := by decide +kernel) (hn := by decide +kernel)) (e_loc (hd := by decide +kernel) (hn := by decide +kernel)) H.s_quality) (ss_cons (x_set (hs := by intro _; rfl) (e_loc (hd := by decide +kernel) (hn := by decide +kernel)) (e_loc (hd := by decide +kernel) (hn := by decide +kernel)) H.s_sampling) (ss_cons (x_set (hs := by intro _; rfl) (e_loc (hd := by decide +kernel) (hn := by decide +kernel)) (e_loc (hd := by decide +kernel) (hn := by decide +kernel)) H.s_interval) (ss_cons (x_set (hs := by intro _; rfl) (e_loc (hd := by decide +kernel) (hn := by decide +kernel)) (e_loc (hd := by decide +kernel) (hn := by decide +kernel)) H.s_optimise) (ss_cons (x_set (hs := by intro _; rfl) (e_loc (hd := by decide +kernel) (hn := by decide +kernel)) (e_loc (hd := by decide +kernel) (hn := by decide +kernel)) H.s_scans) (ss_cons (x_set (hs := by intro _; rfl) (e_loc (hd := by decide +kernel) (hn := by decide +kernel)) (e_loc (hd := by decide +kernel) (hn := by decide +kernel)) H.s_n) (ss_cons (x_set (hs := by intro _; rfl) (e_loc (hd := by decide +kernel) (hn := by decide +kernel)) (e_loc (hd := by decide +kernel) (hn := by decide +kernel)) H.s_model) (ss_nil))))))))))))
theorem s__law_hundredths {c : Cx} (H : Facts c) : FSound c 1 792 d__law_hundredths := fn_plain H.f_792 rfl rfl rfl rfl (show SSound c 0 _ _ b__law_hundredths from ss_cons (x_ret (e_if (t_cmp ok_lt (e_loc (hd := by decide +kernel) (hn := by decide +kernel)) (e_int)) (e_bin ok_div (e_int) (e_loc (hd := by decide +kernel) (hn := by decide +kernel))) (e_bin ok_sub (e_int) (e_bin ok_mul (e_int) (e_loc (hd := by decide +kernel) (hn := by decide +kernel)))))) (ss_nil))
theorem s__law_divisors {c : Cx} (H : Facts c) : FSound c 2 797 d__law_divisors := fn_plain H.f_797 rfl rfl rfl rfl (show SSound c 1 _ _ b__law_divisors from ss_cons (x_ret (e_callB (hp := by intro _; rfl) (hd := by decide +kernel) H.b_tuple (.inr ⟨_, rfl⟩) ok_tuple (es_cons (he := by intro _; rfl) (e_comp (hs := by intro _ _; rfl) (e_loc (hd := by decide +kernel) (hn := by decide +kernel)) (e_callB (hp := by intro _; rfl) (hd := by decide +kernel) H.b_min (.inl ⟨_, rfl⟩) ok_min2 (es_cons (he := by intro _; rfl) (e_loc (hd := by decide +kernel) (hn := by decide +kernel)) (es_cons (he := by intro _; rfl) (e_callB (hp := by intro _; rfl) (hd := by decide +kernel) H.b_max (.inl ⟨_, rfl⟩) ok_max2 (es_cons (he := by intro _; rfl) (e_int) (es_cons (he := by intro _; rfl) (e_bin ok_div (e_bin ok_add (e_bin ok_mul (e_loc (hd := by decide +kernel) (hn := by decide +kernel)) (e_callF (hd := by decide +kernel) (globFn H.g__law_hundredths H.f_792) (s__law_hundredths H) (by decide) (es_cons (he := by intro _; rfl) (e_loc (hd := by decide +kernel) (hn := by decide +kernel)) (es_nil)) rfl (noStar1 (he := by intro _; exact ⟨_, _, rfl⟩)))) (e_int)) (e_int)) (es_nil))) rfl (noStar1 (he := by intro _; exact ⟨_, _, rfl⟩))) (es_nil))) rfl (noStar1 (he := by intro _; exact ⟨_, _, rfl⟩))) rfl rfl rfl) (es_nil)) rfl (noStar1 (he := by intro _; exact ⟨_, _, rfl⟩)))) (ss_nil))
theorem s__law_from {c : Cx} (H : Facts c) : FSound c 1 785 d__law_from := fn_plain H.f_785 rfl rfl rfl rfl (show SSound c 0 _ _ b__law_from from ss_cons (x_put (hs := by intro _; rfl) (e_bin ok_mod (e_bin ok_add (e_bin ok_mul (e_item (hs := by intro _ _; rfl) (e_loc (hd := by decide +kernel) (hn := by decide +kernel)) (e_int)) (e_int)) (e_int)) (e_int)) (e_loc (hd := by decide +kernel) (hn := by decide +kernel)) (e_int)) (ss_cons (x_asg (hs := by intro _; rfl) (e_bin ok_mod (e_bin ok_add (e_item (hs := by intro _ _; rfl) (e_loc (hd := by decide +kernel) (hn := by decide +kernel)) (e_int)) (e_bin ok_div (e_item (hs := by intro _ _; rfl) (e_loc (hd := by decide +kernel) (hn := by decide +kernel)) (e_int)) (e_int))) (e_loc (hd := by decide +kernel) (hn := by decide +kernel))) (by decide +kernel)) (ss_cons (x_put (hs := by intro _; rfl) (e_bin ok_div (e_item (hs := by intro _ _; rfl) (e_loc (hd := by decide +kernel) (hn := by decide +kernel)) (e_int)) (e_loc (hd := by decide +kernel) (hn := by decide +kernel))) (e_loc (hd := by decide +kernel) (hn := by decide +kernel)) (e_int)) (ss_cons (x_ret (e_loc (hd := by decide +kernel) (hn := by decide +kernel))) (ss_nil)))))
theorem s_parts {c : Cx} (H : Facts c) : FSound c 1 586 d_parts := fn_plain H.f_586 rfl rfl rfl rfl (show SSound c 0 _ _ b_parts from ss_cons (x_ret (e_bin ok_div (e_bin ok_sub (e_bin ok_add (e_loc (hd := by decide +kernel) (hn := by decide +kernel)) (e_loc (hd := by decide +kernel) (hn := by decide +kernel))) (e_int)) (e_loc (hd := by decide +kernel) (hn := by decide +kernel)))) (ss_nil))
theorem s_Frame_most_across {c : Cx} (H : Facts c) : FSound c 1 626 d_Frame_most_across := fn_plain H.f_626 rfl rfl rfl rfl (show SSound c 0 _ _ b_Frame_most_across from ss_cons (x_ret (e_callB (hp := by intro _; rfl) (hd := by decide +kernel) H.b_max (.inl ⟨_, rfl⟩) ok_maxL (es_cons (he := by intro _; rfl) (e_comp (hs := by intro _ _; rfl) (e_attr (he := by intro _; rfl) (e_loc (hd := by decide +kernel) (hn := by decide +kernel)) H.a_components) (e_attr (he := by intro _; rfl) (e_loc (hd := by decide +kernel) (hn := by decide +kernel)) H.a_across) rfl rfl rfl) (es_nil)) rfl (noStar1 (he := by intro _; exact ⟨_, _, rfl⟩)))) (ss_nil))
theorem s_Frame_most_down {c : Cx} (H : Facts c) : FSound c 1 631 d_Frame_most_down := fn_plain H.f_631 rfl rfl rfl rfl (show SSound c 0 _ _ b_Frame_most_down from ss_cons (x_ret (e_callB (hp := by intro _; rfl) (hd := by decide +kernel) H.b_max (.inl ⟨_, rfl⟩) ok_maxL (es_cons (he := by intro _; rfl) (e_comp (hs := by intro _ _; rfl) (e_attr (he := by intro _; rfl) (e_loc (hd := by decide +kernel) (hn := by decide +kernel)) H.a_components) (e_attr (he := by intro _; rfl) (e_loc (hd := by decide +kernel) (hn := by decide +kernel)) H.a_down) rfl rfl rfl) (es_nil)) rfl (noStar1 (he := by intro _; exact ⟨_, _, rfl⟩)))) (ss_nil))
theorem s_Frame_plane_size {c : Cx} (H : Facts c) : FSound c 2 652 d_Frame_plane_size := fn_plain H.f_652 rfl rfl rfl rfl (show SSound c 1 _ _ b_Frame_plane_size from ss_cons (x_asg (hs := by intro _; rfl) (e_item (hs := by intro _ _; rfl) (e_attr (he := by intro _; rfl) (e_loc (hd := by decide +kernel) (hn := by decide +kernel)) H.a_components) (e_loc (hd := by decide +kernel) (hn := by decide +kernel))) (by decide +kernel)) (ss_cons (x_asg (hs := by intro _; rfl) (e_callF (hd := by decide +kernel) (globFn H.g_parts H.f_586) (s_parts H) (by decide) (es_cons (he := by intro _; rfl) (e_bin ok_mul (e_attr (he := by intro _; rfl) (e_loc (hd := by decide +kernel) (hn := by decide +kernel)) H.a_width) (e_attr (he := by intro _; rfl) (e_loc (hd := by decide +kernel) (hn := by decide +kernel)) H.a_across)) (es_cons (he := by intro _; rfl) (e_meth (he := by intro env; exact ⟨_, rfl⟩) (e_loc (hd := by decide +kernel) (hn := by decide +kernel)) (es_nil) (meth1 H.m_669_most_across ((s_Frame_most_across H).less (by decide : _ ≤ 1)) H.f_626) (by decide : 1 ≤ _) noStar0) (es_nil))) rfl (noStar1 (he := by intro _; exact ⟨_, _, rfl⟩))) (by decide +kernel)) (ss_cons (x_ret (e_tup (es_cons (he := by intro _; rfl) (e_loc (hd := by decide +kernel) (hn := by decide +kernel)) (es_cons (he := by intro _; rfl) (e_callF (hd := by decide +kernel) (globFn H.g_parts H.f_586) (s_parts H) (by decide) (es_cons (he := by intro _; rfl) (e_bin ok_mul (e_attr (he := by intro _; rfl) (e_loc (hd := by decide +kernel) (hn := by decide +kernel)) H.a_height) (e_attr (he := by intro _; rfl) (e_loc (hd := by decide +kernel) (hn := by decide +kernel)) H.a_down)) (es_cons (he := by intro _; rfl) (e_meth (he := by intro env; exact ⟨_, rfl⟩) (e_loc (hd := by decide +kernel) (hn := by decide +kernel)) (es_nil) (meth1 H.m_669_most_down ((s_Frame_most_down H).less (by decide : _ ≤ 1)) H.f_631) (by decide : 1 ≤ _) noStar0) (es_nil))) rfl (noStar1 (he := by intro _; exact ⟨_, _, rfl⟩))) (es_nil))))) (ss_nil))))
theorem s_Frame_blocks {c : Cx} (H : Facts c) : FSound c 3 659 d_Frame_blocks := fn_plain H.f_659 rfl rfl rfl rfl (show SSound c 2 _ _ b_Frame_blocks from ss_cons (x_unp (hs := by intro _; rfl) (hw := by intro _; rfl) (ns := [("width", _), ("height", _)]) (e_meth (he := by intro env; exact ⟨_, rfl⟩) (e_loc (hd := by decide +kernel) (hn := by decide +kernel)) (es_cons (he := by intro _; rfl) (e_loc (hd := by decide +kernel) (hn := by decide +kernel)) (es_nil)) (meth1 H.m_669_plane_size ((s_Frame_plane_size H).less (by decide : _ ≤ 2)) H.f_652) (by decide : 2 ≤ _) (noStar1 (he := by intro _; exact ⟨_, _, rfl⟩))) (by decide +kernel)) (ss_cons (x_ret (e_tup (es_cons (he := by intro _; rfl) (e_callF (hd := by decide +kernel) (globFn H.g_parts H.f_586) (s_parts H) (by decide) (es_cons (he := by intro _; rfl) (e_loc (hd := by decide +kernel) (hn := by decide +kernel)) (es_cons (he := by intro _; rfl) (e_attr (he := by intro _; rfl) (e_loc (hd := by decide +kernel) (hn := by decide +kernel)) H.a_n) (es_nil))) rfl (noStar1 (he := by intro _; exact ⟨_, _, rfl⟩))) (es_cons (he := by intro _; rfl) (e_callF (hd := by decide +kernel) (globFn H.g_parts H.f_586) (s_parts H) (by decide) (es_cons (he := by intro _; rfl) (e_loc (hd := by decide +kernel) (hn := by decide +kernel)) (es_cons (he := by intro _; rfl) (e_attr (he := by intro _; rfl) (e_loc (hd := by decide +kernel) (hn := by decide +kernel)) H.a_n) (es_nil))) rfl (noStar1 (he := by intro _; exact ⟨_, _, rfl⟩))) (es_nil))))) (ss_nil)))
theorem s_Grid_put {c : Cx} (H : Facts c) : FSound c 1 699 d_Grid_put := fn_plain H.f_699 rfl rfl rfl rfl (show SSound c 0 _ _ b_Grid_put from ss_cons (x_put (hs := by intro _; rfl) (e_callB (hp := by intro _; rfl) (hd := by decide +kernel) H.b_list (.inr ⟨_, rfl⟩) ok_list (es_cons (he := by intro _; rfl) (e_loc (hd := by decide +kernel) (hn := by decide +kernel)) (es_nil)) rfl (noStar1 (he := by intro _; exact ⟨_, _, rfl⟩))) (e_item (hs := by intro _ _; rfl) (e_item (hs := by intro _ _; rfl) (e_attr (he := by intro _; rfl) (e_loc (hd := by decide +kernel) (hn := by decide +kernel)) H.a_planes) (e_loc (hd := by decide +kernel) (hn := by decide +kernel))) (e_loc (hd := by decide +kernel) (hn := by decide +kernel))) (e_loc (hd := by decide +kernel) (hn := by decide +kernel))) (ss_nil))
theorem s_quantise {c : Cx} (H : Facts c) : FSound c 1 52 d_quantise := fn_plain H.f_52 rfl rfl rfl rfl (show SSound c 0 _ _ b_quantise from ss_cons (x_own (es_nil) (by decide +kernel)) (ss_cons (x_for (hs := by intro _ _; rfl) (e_callB (hp := by intro _; rfl) (hd := by decide +kernel) H.b_range (.inr ⟨_, rfl⟩) ok_range (es_cons (he := by intro _; rfl) (e_callB (hp := by intro _; rfl) (hd := by decide +kernel) H.b_len (.inl ⟨_, rfl⟩) ok_len (es_cons (he := by intro _; rfl) (e_loc (hd := by decide +kernel) (hn := by decide +kernel)) (es_nil)) rfl (noStar1 (he := by intro _; exact ⟨_, _, rfl⟩))) (es_nil)) rfl (noStar1 (he := by intro _; exact ⟨_, _, rfl⟩))) (ss_cons (x_asg (hs := by intro _; rfl) (e_item (hs := by intro _ _; rfl) (e_loc (hd := by decide +kernel) (hn := by decide +kernel)) (e_loc (hd := by decide +kernel) (hn := by decide +kernel))) (by decide +kernel)) (ss_cons (x_asg (hs := by intro _; rfl) (e_bin ok_mul (e_item (hs := by intro _ _; rfl) (e_loc (hd := by decide +kernel) (hn := by decide +kernel)) (e_loc (hd := by decide +kernel) (hn := by decide +kernel))) (e_loc (hd := by decide +kernel) (hn := by decide +kernel))) (by decide +kernel)) (ss_cons (x_asg (hs := by intro _; rfl) (e_bin ok_div (e_bin ok_add (e_bin ok_mul (e_int) (e_callB (hp := by intro _; rfl) (hd := by decide +kernel) H.b_abs (.inl ⟨_, rfl⟩) ok_abs (es_cons (he := by intro _; rfl) (e_loc (hd := by decide +kernel) (hn := by decide +kernel)) (es_nil)) rfl (noStar1 (he := by intro _; exact ⟨_, _, rfl⟩)))) (e_loc (hd := by decide +kernel) (hn := by decide +kernel))) (e_bin ok_mul (e_int) (e_loc (hd := by decide +kernel) (hn := by decide +kernel)))) (by decide +kernel)) (ss_cons (x_push (he := by intro env; exact ⟨_, rfl⟩) (hp := by intro _; rfl) (hd := by decide +kernel) (hn := by decide +kernel) (es_cons (he := by intro _; rfl) (e_if (t_cmp ok_lt (e_loc (hd := by decide +kernel) (hn := by decide +kernel)) (e_int)) (e_neg (e_loc (hd := by decide +kernel) (hn := by decide +kernel))) (e_loc (hd := by decide +kernel) (hn := by decide +kernel))) es_nil) (hns := (noStar1 (he := by intro _; exact ⟨_, _, rfl⟩)))) (ss_nil))))) (by decide +kernel)) (ss_freeze (x := "found") (ss_cons (x_ret (e_loc (hd := by decide +kernel) (hn := by decide +kernel))) (ss_nil)))))
theorem s_turned {c : Cx} (H : Facts c) : FSound c 1 414 d_turned := fn_plain H.f_414 rfl rfl rfl rfl (show SSound c 0 _ _ b_turned from ss_cons (x_own (es_nil) (by decide +kernel)) (ss_cons (x_for (hs := by intro _ _; rfl) (e_callB (hp := by intro _; rfl) (hd := by decide +kernel) H.b_range (.inr ⟨_, rfl⟩) ok_range (es_cons (he := by intro _; rfl) (e_loc (hd := by decide +kernel) (hn := by decide +kernel)) (es_nil)) rfl (noStar1 (he := by intro _; exact ⟨_, _, rfl⟩))) (ss_cons (x_ext (he := by intro env; exact ⟨_, rfl⟩) (hp := by intro _; rfl) (hd := by decide +kernel) (hn := by decide +kernel) (es_cons (he := by intro _; rfl) (e_slice (hs := by intro _ _; exact ⟨_, rfl⟩) (e_loc (hd := by decide +kernel) (hn := by decide +kernel)) (p_some (e_loc (hd := by decide +kernel) (hn := by decide +kernel))) p_none (p_some (e_loc (hd := by decide +kernel) (hn := by decide +kernel)))) es_nil) (hns := (noStar1 (he := by intro _; exact ⟨_, _, rfl⟩)))) (ss_nil)) (by decide +kernel)) (ss_freeze (x := "found") (ss_cons (x_ret (e_loc (hd := by decide +kernel) (hn := by decide +kernel))) (ss_nil)))))
theorem s_even_forward {c : Cx} (H : Facts c) : FSound c 1 400 d_even_forward := fn_plain H.f_400 rfl rfl rfl rfl (show SSound c 0 _ _ b_even_forward from ss_cons (x_unpR (hs := by intro _; rfl) (ns := [("outer", _), ("inner", _)]) (e_tup (es_cons (he := by intro _; rfl) (e_bin ok_sub (e_loc (hd := by decide +kernel) (hn := by decide +kernel)) (e_loc (hd := by decide +kernel) (hn := by decide +kernel))) (es_cons (he := by intro _; rfl) (e_bin ok_sub (e_loc (hd := by decide +kernel) (hn := by decide +kernel)) (e_loc (hd := by decide +kernel) (hn := by decide +kernel))) (es_nil)))) (by decide +kernel) (fun env h hb => swap2 (h _ (by simp)) (h _ (by simp)) hb rfl (by decide +kernel) rfl rfl rfl)) (ss_cons (x_asg (hs := by intro _; rfl) (e_bin ok_mul (e_bin ok_add (e_loc (hd := by decide +kernel) (hn := by decide +kernel)) (e_loc (hd := by decide +kernel) (hn := by decide +kernel))) (e_glob (hd := by decide +kernel) H.v_C_0_541 rfl)) (by decide +kernel)) (ss_cons (x_ret (e_tup (es_cons (he := by intro _; rfl) (e_bin ok_add (e_bin ok_add (e_bin ok_add (e_loc (hd := by decide +kernel) (hn := by decide +kernel)) (e_loc (hd := by decide +kernel) (hn := by decide +kernel))) (e_loc (hd := by decide +kernel) (hn := by decide +kernel))) (e_loc (hd := by decide +kernel) (hn := by decide +kernel))) (es_cons (he := by intro _; rfl) (e_bin ok_sub (e_bin ok_sub (e_bin ok_add (e_loc (hd := by decide +kernel) (hn := by decide +kernel)) (e_loc (hd := by decide +kernel) (hn := by decide +kernel))) (e_loc (hd := by decide +kernel) (hn := by decide +kernel))) (e_loc (hd := by decide +kernel) (hn := by decide +kernel))) (es_cons (he := by intro _; rfl) (e_bin ok_add (e_loc (hd := by decide +kernel) (hn := by decide +kernel)) (e_bin ok_mul (e_loc (hd := by decide +kernel) (hn := by decide +kernel)) (e_glob (hd := by decide +kernel) H.v_C_0_765 rfl))) (es_cons (he := by intro _; rfl) (e_bin ok_sub (e_loc (hd := by decide +kernel) (hn := by decide +kernel)) (e_bin ok_mul (e_loc (hd := by decide +kernel) (hn := by decide +kernel)) (e_glob (hd := by decide +kernel) H.v_C_1_847 rfl))) (es_nil))))))) (ss_nil))))
theorem s_odd_flow {c : Cx} (H : Facts c) : FSound c 1 421 d_odd_flow := fn_plain H.f_421 rfl rfl rfl rfl (show SSound c 0 _ _ b_odd_flow from ss_cons (x_asg (hs := by intro _; rfl) (e_bin ok_mul (e_bin ok_add (e_bin ok_add (e_bin ok_add (e_loc (hd := by decide +kernel) (hn := by decide +kernel)) (e_loc (hd := by decide +kernel) (hn := by decide +kernel))) (e_loc (hd := by decide +kernel) (hn := by decide +kernel))) (e_loc (hd := by decide +kernel) (hn := by decide +kernel))) (e_glob (hd := by decide +kernel) H.v_C_1_175 rfl)) (by decide +kernel)) (ss_cons (x_unpR (hs := by intro _; rfl) (ns := [("outer", _), ("inner", _)]) (e_tup (es_cons (he := by intro _; rfl) (e_bin ok_mul (e_bin ok_add (e_loc (hd := by decide +kernel) (hn := by decide +kernel)) (e_loc (hd := by decide +kernel) (hn := by decide +kernel))) (e_glob (hd := by decide +kernel) H.v_C_0_899 rfl)) (es_cons (he := by intro _; rfl) (e_bin ok_mul (e_bin ok_add (e_loc (hd := by decide +kernel) (hn := by decide +kernel)) (e_loc (hd := by decide +kernel) (hn := by decide +kernel))) (e_glob (hd := by decide +kernel) H.v_C_2_562 rfl)) (es_nil)))) (by decide +kernel) (fun env h hb => swap2 (h _ (by simp)) (h _ (by simp)) hb rfl (by decide +kernel) rfl rfl rfl)) (ss_cons (x_unpR (hs := by intro _; rfl) (ns := [("near", _), ("far", _)]) (e_tup (es_cons (he := by intro _; rfl) (e_bin ok_sub (e_loc (hd := by decide +kernel) (hn := by decide +kernel)) (e_bin ok_mul (e_bin ok_add (e_loc (hd := by decide +kernel) (hn := by decide +kernel)) (e_loc (hd := by decide +kernel) (hn := by decide +kernel))) (e_glob (hd := by decide +kernel) H.v_C_1_961 rfl))) (es_cons (he := by intro _; rfl) (e_bin ok_sub (e_loc (hd := by decide +kernel) (hn := by decide +kernel)) (e_bin ok_mul (e_bin ok_add (e_loc (hd := by decide +kernel) (hn := by decide +kernel)) (e_loc (hd := by decide +kernel) (hn := by decide +kernel))) (e_glob (hd := by decide +kernel) H.v_C_0_390 rfl))) (es_nil)))) (by decide +kernel) (fun env h hb => swap2 (h _ (by simp)) (h _ (by simp)) hb rfl (by decide +kernel) rfl rfl rfl)) (ss_cons (x_ret (e_tup (es_cons (he := by intro _; rfl) (e_bin ok_add (e_bin ok_sub (e_bin ok_mul (e_loc (hd := by decide +kernel) (hn := by decide +kernel)) (e_glob (hd := by decide +kernel) H.v_C_0_298 rfl)) (e_loc (hd := by decide +kernel) (hn := by decide +kernel))) (e_loc (hd := by decide +kernel) (hn := by decide +kernel))) (es_cons (he := by intro _; rfl) (e_bin ok_add (e_bin ok_sub (e_bin ok_mul (e_loc (hd := by decide +kernel) (hn := by decide +kernel)) (e_glob (hd := by decide +kernel) H.v_C_2_053 rfl)) (e_loc (hd := by decide +kernel) (hn := by decide +kernel))) (e_loc (hd := by decide +kernel) (hn := by decide +kernel))) (es_cons (he := by intro _; rfl) (e_bin ok_add (e_bin ok_sub (e_bin ok_mul (e_loc (hd := by decide +kernel) (hn := by decide +kernel)) (e_glob (hd := by decide +kernel) H.v_C_3_072 rfl)) (e_loc (hd := by decide +kernel) (hn := by decide +kernel))) (e_loc (hd := by decide +kernel) (hn := by decide +kernel))) (es_cons (he := by intro _; rfl) (e_bin ok_add (e_bin ok_sub (e_bin ok_mul (e_loc (hd := by decide +kernel) (hn := by decide +kernel)) (e_glob (hd := by decide +kernel) H.v_C_1_501 rfl)) (e_loc (hd := by decide +kernel) (hn := by decide +kernel))) (e_loc (hd := by decide +kernel) (hn := by decide +kernel))) (es_nil))))))) (ss_nil)))))
theorem s_descaled {c : Cx} (H : Facts c) : FSound c 1 393 d_descaled := fn_plain H.f_393 rfl rfl rfl rfl (show SSound c 0 _ _ b_descaled from ss_cons (x_ret (e_bin ok_shr (e_bin ok_add (e_loc (hd := by decide +kernel) (hn := by decide +kernel)) (e_bin ok_shl (e_int) (e_bin ok_sub (e_loc (hd := by decide +kernel) (hn := by decide +kernel)) (e_int)))) (e_loc (hd := by decide +kernel) (hn := by decide +kernel)))) (ss_nil))
theorem s_forward_row {c : Cx} (H : Facts c) : FSound c 2 426 d_forward_row := fn_plain H.f_426 rfl rfl rfl rfl (show SSound c 1 _ _ b_forward_row from ss_cons (x_unp (hs := by intro _; rfl) (hw := by intro _; rfl) (ns := [("a", _), ("b", _), ("c", _), ("d", _), ("e", _), ("f", _), ("g", _), ("h", _)]) (e_loc (hd := by decide +kernel) (hn := by decide +kernel)) (by decide +kernel)) (ss_cons (x_unp (hs := by intro _; rfl) (hw := by intro _; rfl) (ns := [("zero", _), ("four", _), ("two", _), ("six", _)]) (e_callF (hd := by decide +kernel) (globFn H.g_even_forward H.f_400) (s_even_forward H) (by decide) (es_cons (he := by intro _; rfl) (e_bin ok_add (e_loc (hd := by decide +kernel) (hn := by decide +kernel)) (e_loc (hd := by decide +kernel) (hn := by decide +kernel))) (es_cons (he := by intro _; rfl) (e_bin ok_add (e_loc (hd := by decide +kernel) (hn := by decide +kernel)) (e_loc (hd := by decide +kernel) (hn := by decide +kernel))) (es_cons (he := by intro _; rfl) (e_bin ok_add (e_loc (hd := by decide +kernel) (hn := by decide +kernel)) (e_loc (hd := by decide +kernel) (hn := by decide +kernel))) (es_cons (he := by intro _; rfl) (e_bin ok_add (e_loc (hd := by decide +kernel) (hn := by decide +kernel)) (e_loc (hd := by decide +kernel) (hn := by decide +kernel))) (es_nil))))) rfl (noStar1 (he := by intro _; exact ⟨_, _, rfl⟩))) (by decide +kernel)) (ss_cons (x_unp (hs := by intro _; rfl) (hw := by intro _; rfl) (ns := [("seven", _), ("five", _), ("three", _), ("one", _)]) (e_callF (hd := by decide +kernel) (globFn H.g_odd_flow H.f_421) (s_odd_flow H) (by decide) (es_cons (he := by intro _; rfl) (e_bin ok_sub (e_loc (hd := by decide +kernel) (hn := by decide +kernel)) (e_loc (hd := by decide +kernel) (hn := by decide +kernel))) (es_cons (he := by intro _; rfl) (e_bin ok_sub (e_loc (hd := by decide +kernel) (hn := by decide +kernel)) (e_loc (hd := by decide +kernel) (hn := by decide +kernel))) (es_cons (he := by intro _; rfl) (e_bin ok_sub (e_loc (hd := by decide +kernel) (hn := by decide +kernel)) (e_loc (hd := by decide +kernel) (hn := by decide +kernel))) (es_cons (he := by intro _; rfl) (e_bin ok_sub (e_loc (hd := by decide +kernel) (hn := by decide +kernel)) (e_loc (hd := by decide +kernel) (hn := by decide +kernel))) (es_nil))))) rfl (noStar1 (he := by intro _; exact ⟨_, _, rfl⟩))) (by decide +kernel)) (ss_cons (x_if (t_cmp ok_gt (e_loc (hd := by decide +kernel) (hn := by decide +kernel)) (e_int)) (ss_cons (x_unpR (hs := by intro _; rfl) (ns := [("zero", _), ("four", _)]) (e_tup (es_cons (he := by intro _; rfl) (e_callF (hd := by decide +kernel) (globFn H.g_descaled H.f_393) (s_descaled H) (by decide) (es_cons (he := by intro _; rfl) (e_loc (hd := by decide +kernel) (hn := by decide +kernel)) (es_cons (he := by intro _; rfl) (e_loc (hd := by decide +kernel) (hn := by decide +kernel)) (es_nil))) rfl (noStar1 (he := by intro _; exact ⟨_, _, rfl⟩))) (es_cons (he := by intro _; rfl) (e_callF (hd := by decide +kernel) (globFn H.g_descaled H.f_393) (s_descaled H) (by decide) (es_cons (he := by intro _; rfl) (e_loc (hd := by decide +kernel) (hn := by decide +kernel)) (es_cons (he := by intro _; rfl) (e_loc (hd := by decide +kernel) (hn := by decide +kernel)) (es_nil))) rfl (noStar1 (he := by intro _; exact ⟨_, _, rfl⟩))) (es_nil)))) (by decide +kernel) (fun env h hb => swap2 (h _ (by simp)) (h _ (by simp)) hb rfl (by decide +kernel) rfl rfl rfl)) (ss_nil)) (ss_cons (x_unpR (hs := by intro _; rfl) (ns := [("zero", _), ("four", _)]) (e_tup (es_cons (he := by intro _; rfl) (e_bin ok_shl (e_loc (hd := by decide +kernel) (hn := by decide +kernel)) (e_loc (hd := by decide +kernel) (hn := by decide +kernel))) (es_cons (he := by intro _; rfl) (e_bin ok_shl (e_loc (hd := by decide +kernel) (hn := by decide +kernel)) (e_loc (hd := by decide +kernel) (hn := by decide +kernel))) (es_nil)))) (by decide +kernel) (fun env h hb => swap2 (h _ (by simp)) (h _ (by simp)) hb rfl (by decide +kernel) rfl rfl rfl)) (ss_nil))) (ss_cons (x_asgComp (hs := by intro _ _; rfl) (e_tup (es_cons (he := by intro _; rfl) (e_loc (hd := by decide +kernel) (hn := by decide +kernel)) (es_cons (he := by intro _; rfl) (e_loc (hd := by decide +kernel) (hn := by decide +kernel)) (es_cons (he := by intro _; rfl) (e_loc (hd := by decide +kernel) (hn := by decide +kernel)) (es_cons (he := by intro _; rfl) (e_loc (hd := by decide +kernel) (hn := by decide +kernel)) (es_cons (he := by intro _; rfl) (e_loc (hd := by decide +kernel) (hn := by decide +kernel)) (es_cons (he := by intro _; rfl) (e_loc (hd := by decide +kernel) (hn := by decide +kernel)) (es_nil)))))))) (e_callF (hd := by decide +kernel) (globFn H.g_descaled H.f_393) (s_descaled H) (by decide) (es_cons (he := by intro _; rfl) (e_loc (hd := by decide +kernel) (hn := by decide +kernel)) (es_cons (he := by intro _; rfl) (e_loc (hd := by decide +kernel) (hn := by decide +kernel)) (es_nil))) rfl (noStar1 (he := by intro _; exact ⟨_, _, rfl⟩))) rfl rfl rfl rfl (fun env h1 h2 => by unfold swapsWith; simp only [h1, h2]; rfl)) (ss_cons (x_ret (e_list (es_cons (he := by intro _; rfl) (e_loc (hd := by decide +kernel) (hn := by decide +kernel)) (es_cons (he := by intro _; rfl) (e_item (hs := by intro _ _; rfl) (e_loc (hd := by decide +kernel) (hn := by decide +kernel)) (e_int)) (es_cons (he := by intro _; rfl) (e_item (hs := by intro _ _; rfl) (e_loc (hd := by decide +kernel) (hn := by decide +kernel)) (e_int)) (es_cons (he := by intro _; rfl) (e_item (hs := by intro _ _; rfl) (e_loc (hd := by decide +kernel) (hn := by decide +kernel)) (e_int)) (es_cons (he := by intro _; rfl) (e_loc (hd := by decide +kernel) (hn := by decide +kernel)) (es_cons (he := by intro _; rfl) (e_item (hs := by intro _ _; rfl) (e_loc (hd := by decide +kernel) (hn := by decide +kernel)) (e_int)) (es_cons (he := by intro _; rfl) (e_item (hs := by intro _ _; rfl) (e_loc (hd := by decide +kernel) (hn := by decide +kernel)) (e_int)) (es_cons (he := by intro _; rfl) (e_item (hs := by intro _ _; rfl) (e_loc (hd := by decide +kernel) (hn := by decide +kernel)) (e_int)) (es_nil))))))))))) (ss_nil)))))))
theorem s_IslowDct_forward {c : Cx} (H : Facts c) : FSound c 3 445 d_IslowDct_forward := fn_plain H.f_445 rfl rfl rfl rfl (show SSound c 2 _ _ b_IslowDct_forward from ss_cons (x_own (es_nil) (by decide +kernel)) (ss_cons (x_for (hs := by intro _ _; rfl) (e_callB (hp := by intro _; rfl) (hd := by decide +kernel) H.b_range (.inr ⟨_, rfl⟩) ok_range (es_cons (he := by intro _; rfl) (e_int) (es_cons (he := by intro _; rfl) (e_bin ok_mul (e_glob (hd := by decide +kernel) H.v_SIDE_dct_islow rfl) (e_glob (hd := by decide +kernel) H.v_SIDE_dct_islow rfl)) (es_cons (he := by intro _; rfl) (e_glob (hd := by decide +kernel) H.v_SIDE_dct_islow rfl) (es_nil)))) rfl (noStar1 (he := by intro _; exact ⟨_, _, rfl⟩))) (ss_cons (x_ext (he := by intro env; exact ⟨_, rfl⟩) (hp := by intro _; rfl) (hd := by decide +kernel) (hn := by decide +kernel) (es_cons (he := by intro _; rfl) (e_callF (hd := by decide +kernel) (globFn H.g_forward_row H.f_426) (s_forward_row H) (by decide) (es_cons (he := by intro _; rfl) (e_slice (hs := by intro _ _; exact ⟨_, rfl⟩) (e_loc (hd := by decide +kernel) (hn := by decide +kernel)) (p_some (e_loc (hd := by decide +kernel) (hn := by decide +kernel))) (p_some (e_bin ok_add (e_loc (hd := by decide +kernel) (hn := by decide +kernel)) (e_glob (hd := by decide +kernel) H.v_SIDE_dct_islow rfl))) p_none) (es_cons (he := by intro _; rfl) (e_glob (hd := by decide +kernel) H.v_PASS_BITS rfl) (es_cons (he := by intro _; rfl) (e_int) (es_cons (he := by intro _; rfl) (e_bin ok_sub (e_glob (hd := by decide +kernel) H.v_CONST_BITS rfl) (e_glob (hd := by decide +kernel) H.v_PASS_BITS rfl)) (es_nil))))) rfl (noStar1 (he := by intro _; exact ⟨_, _, rfl⟩))) es_nil) (hns := (noStar1 (he := by intro _; exact ⟨_, _, rfl⟩)))) (ss_nil)) (by decide +kernel)) (ss_freeze (x := "found") (ss_cons (x_asg (hs := by intro _; rfl) (e_callF (hd := by decide +kernel) (globFn H.g_turned H.f_414) (s_turned H) (by decide) (es_cons (he := by intro _; rfl) (e_loc (hd := by decide +kernel) (hn := by decide +kernel)) (es_cons (he := by intro _; rfl) (e_glob (hd := by decide +kernel) H.v_SIDE_dct_islow rfl) (es_nil))) rfl (noStar1 (he := by intro _; exact ⟨_, _, rfl⟩))) (by decide +kernel)) (ss_cons (x_own (es_nil) (by decide +kernel)) (ss_cons (x_for (hs := by intro _ _; rfl) (e_callB (hp := by intro _; rfl) (hd := by decide +kernel) H.b_range (.inr ⟨_, rfl⟩) ok_range (es_cons (he := by intro _; rfl) (e_int) (es_cons (he := by intro _; rfl) (e_bin ok_mul (e_glob (hd := by decide +kernel) H.v_SIDE_dct_islow rfl) (e_glob (hd := by decide +kernel) H.v_SIDE_dct_islow rfl)) (es_cons (he := by intro _; rfl) (e_glob (hd := by decide +kernel) H.v_SIDE_dct_islow rfl) (es_nil)))) rfl (noStar1 (he := by intro _; exact ⟨_, _, rfl⟩))) (ss_cons (x_ext (he := by intro env; exact ⟨_, rfl⟩) (hp := by intro _; rfl) (hd := by decide +kernel) (hn := by decide +kernel) (es_cons (he := by intro _; rfl) (e_callF (hd := by decide +kernel) (globFn H.g_forward_row H.f_426) (s_forward_row H) (by decide) (es_cons (he := by intro _; rfl) (e_slice (hs := by intro _ _; exact ⟨_, rfl⟩) (e_loc (hd := by decide +kernel) (hn := by decide +kernel)) (p_some (e_loc (hd := by decide +kernel) (hn := by decide +kernel))) (p_some (e_bin ok_add (e_loc (hd := by decide +kernel) (hn := by decide +kernel)) (e_glob (hd := by decide +kernel) H.v_SIDE_dct_islow rfl))) p_none) (es_cons (he := by intro _; rfl) (e_int) (es_cons (he := by intro _; rfl) (e_glob (hd := by decide +kernel) H.v_PASS_BITS rfl) (es_cons (he := by intro _; rfl) (e_bin ok_add (e_glob (hd := by decide +kernel) H.v_CONST_BITS rfl) (e_glob (hd := by decide +kernel) H.v_PASS_BITS rfl)) (es_nil))))) rfl (noStar1 (he := by intro _; exact ⟨_, _, rfl⟩))) es_nil) (hns := (noStar1 (he := by intro _; exact ⟨_, _, rfl⟩)))) (ss_nil)) (by decide +kernel)) (ss_freeze (x := "found") (ss_cons (x_ret (e_callF (hd := by decide +kernel) (globFn H.g_turned H.f_414) (s_turned H) (by decide) (es_cons (he := by intro _; rfl) (e_loc (hd := by decide +kernel) (hn := by decide +kernel)) (es_cons (he := by intro _; rfl) (e_glob (hd := by decide +kernel) H.v_SIDE_dct_islow rfl) (es_nil))) rfl (noStar1 (he := by intro _; exact ⟨_, _, rfl⟩)))) (ss_nil)))))))))
theorem s_FourDct_forward {c : Cx} (H : Facts c) : FSound c 2 473 d_FourDct_forward := fn_plain H.f_473 rfl rfl rfl rfl (show SSound c 1 _ _ b_FourDct_forward from ss_cons (x_own (es_nil) (by decide +kernel)) (ss_cons (x_for (hs := by intro _ _; rfl) (e_callB (hp := by intro _; rfl) (hd := by decide +kernel) H.b_range (.inr ⟨_, rfl⟩) ok_range (es_cons (he := by intro _; rfl) (e_int) (es_cons (he := by intro _; rfl) (e_bin ok_mul (e_glob (hd := by decide +kernel) H.v_SIDE_dct_small rfl) (e_glob (hd := by decide +kernel) H.v_SIDE_dct_small rfl)) (es_cons (he := by intro _; rfl) (e_glob (hd := by decide +kernel) H.v_SIDE_dct_small rfl) (es_nil)))) rfl (noStar1 (he := by intro _; exact ⟨_, _, rfl⟩))) (ss_cons (x_unp (hs := by intro _; rfl) (hw := by intro _; rfl) (ns := [("zero", _), ("two", _), ("one", _), ("three", _)]) (e_callF (hd := by decide +kernel) (globFn H.g_even_forward H.f_400) (s_even_forward H) (by decide) (es_cons (he := by intro _; rfl) (e_item (hs := by intro _ _; rfl) (e_loc (hd := by decide +kernel) (hn := by decide +kernel)) (e_loc (hd := by decide +kernel) (hn := by decide +kernel))) (es_cons (he := by intro _; rfl) (e_item (hs := by intro _ _; rfl) (e_loc (hd := by decide +kernel) (hn := by decide +kernel)) (e_bin ok_add (e_loc (hd := by decide +kernel) (hn := by decide +kernel)) (e_int))) (es_cons (he := by intro _; rfl) (e_item (hs := by intro _ _; rfl) (e_loc (hd := by decide +kernel) (hn := by decide +kernel)) (e_bin ok_add (e_loc (hd := by decide +kernel) (hn := by decide +kernel)) (e_int))) (es_cons (he := by intro _; rfl) (e_item (hs := by intro _ _; rfl) (e_loc (hd := by decide +kernel) (hn := by decide +kernel)) (e_bin ok_add (e_loc (hd := by decide +kernel) (hn := by decide +kernel)) (e_int))) (es_nil))))) rfl (noStar1 (he := by intro _; exact ⟨_, _, rfl⟩))) (by decide +kernel)) (ss_cons (x_ext (he := by intro env; exact ⟨_, rfl⟩) (hp := by intro _; rfl) (hd := by decide +kernel) (hn := by decide +kernel) (es_cons (he := by intro _; rfl) (e_list (es_cons (he := by intro _; rfl) (e_bin ok_shl (e_loc (hd := by decide +kernel) (hn := by decide +kernel)) (e_glob (hd := by decide +kernel) H.v_PASS_BITS rfl)) (es_cons (he := by intro _; rfl) (e_callF (hd := by decide +kernel) (globFn H.g_descaled H.f_393) (s_descaled H) (by decide) (es_cons (he := by intro _; rfl) (e_loc (hd := by decide +kernel) (hn := by decide +kernel)) (es_cons (he := by intro _; rfl) (e_bin ok_sub (e_glob (hd := by decide +kernel) H.v_CONST_BITS rfl) (e_glob (hd := by decide +kernel) H.v_PASS_BITS rfl)) (es_nil))) rfl (noStar1 (he := by intro _; exact ⟨_, _, rfl⟩))) (es_nil)))) es_nil) (hns := (noStar1 (he := by intro _; exact ⟨_, _, rfl⟩)))) (ss_cons (x_ext (he := by intro env; exact ⟨_, rfl⟩) (hp := by intro _; rfl) (hd := by decide +kernel) (hn := by decide +kernel) (es_cons (he := by intro _; rfl) (e_list (es_cons (he := by intro _; rfl) (e_bin ok_shl (e_loc (hd := by decide +kernel) (hn := by decide +kernel)) (e_glob (hd := by decide +kernel) H.v_PASS_BITS rfl)) (es_cons (he := by intro _; rfl) (e_callF (hd := by decide +kernel) (globFn H.g_descaled H.f_393) (s_descaled H) (by decide) (es_cons (he := by intro _; rfl) (e_loc (hd := by decide +kernel) (hn := by decide +kernel)) (es_cons (he := by intro _; rfl) (e_bin ok_sub (e_glob (hd := by decide +kernel) H.v_CONST_BITS rfl) (e_glob (hd := by decide +kernel) H.v_PASS_BITS rfl)) (es_nil))) rfl (noStar1 (he := by intro _; exact ⟨_, _, rfl⟩))) (es_nil)))) es_nil) (hns := (noStar1 (he := by intro _; exact ⟨_, _, rfl⟩)))) (ss_nil)))) (by decide +kernel)) (ss_freeze (x := "found") (ss_cons (x_asg (hs := by intro _; rfl) (e_callF (hd := by decide +kernel) (globFn H.g_turned H.f_414) (s_turned H) (by decide) (es_cons (he := by intro _; rfl) (e_loc (hd := by decide +kernel) (hn := by decide +kernel)) (es_cons (he := by intro _; rfl) (e_glob (hd := by decide +kernel) H.v_SIDE_dct_small rfl) (es_nil))) rfl (noStar1 (he := by intro _; exact ⟨_, _, rfl⟩))) (by decide +kernel)) (ss_cons (x_own (es_nil) (by decide +kernel)) (ss_cons (x_for (hs := by intro _ _; rfl) (e_callB (hp := by intro _; rfl) (hd := by decide +kernel) H.b_range (.inr ⟨_, rfl⟩) ok_range (es_cons (he := by intro _; rfl) (e_int) (es_cons (he := by intro _; rfl) (e_bin ok_mul (e_glob (hd := by decide +kernel) H.v_SIDE_dct_small rfl) (e_glob (hd := by decide +kernel) H.v_SIDE_dct_small rfl)) (es_cons (he := by intro _; rfl) (e_glob (hd := by decide +kernel) H.v_SIDE_dct_small rfl) (es_nil)))) rfl (noStar1 (he := by intro _; exact ⟨_, _, rfl⟩))) (ss_cons (x_unp (hs := by intro _; rfl) (hw := by intro _; rfl) (ns := [("zero", _), ("two", _), ("one", _), ("three", _)]) (e_callF (hd := by decide +kernel) (globFn H.g_even_forward H.f_400) (s_even_forward H) (by decide) (es_cons (he := by intro _; rfl) (e_item (hs := by intro _ _; rfl) (e_loc (hd := by decide +kernel) (hn := by decide +kernel)) (e_loc (hd := by decide +kernel) (hn := by decide +kernel))) (es_cons (he := by intro _; rfl) (e_item (hs := by intro _ _; rfl) (e_loc (hd := by decide +kernel) (hn := by decide +kernel)) (e_bin ok_add (e_loc (hd := by decide +kernel) (hn := by decide +kernel)) (e_int))) (es_cons (he := by intro _; rfl) (e_item (hs := by intro _ _; rfl) (e_loc (hd := by decide +kernel) (hn := by decide +kernel)) (e_bin ok_add (e_loc (hd := by decide +kernel) (hn := by decide +kernel)) (e_int))) (es_cons (he := by intro _; rfl) (e_item (hs := by intro _ _; rfl) (e_loc (hd := by decide +kernel) (hn := by decide +kernel)) (e_bin ok_add (e_loc (hd := by decide +kernel) (hn := by decide +kernel)) (e_int))) (es_nil))))) rfl (noStar1 (he := by intro _; exact ⟨_, _, rfl⟩))) (by decide +kernel)) (ss_cons (x_ext (he := by intro env; exact ⟨_, rfl⟩) (hp := by intro _; rfl) (hd := by decide +kernel) (hn := by decide +kernel) (es_cons (he := by intro _; rfl) (e_list (es_cons (he := by intro _; rfl) (e_callF (hd := by decide +kernel) (globFn H.g_descaled H.f_393) (s_descaled H) (by decide) (es_cons (he := by intro _; rfl) (e_loc (hd := by decide +kernel) (hn := by decide +kernel)) (es_cons (he := by intro _; rfl) (e_bin ok_sub (e_glob (hd := by decide +kernel) H.v_PASS_BITS rfl) (e_int)) (es_nil))) rfl (noStar1 (he := by intro _; exact ⟨_, _, rfl⟩))) (es_cons (he := by intro _; rfl) (e_callF (hd := by decide +kernel) (globFn H.g_descaled H.f_393) (s_descaled H) (by decide) (es_cons (he := by intro _; rfl) (e_loc (hd := by decide +kernel) (hn := by decide +kernel)) (es_cons (he := by intro _; rfl) (e_bin ok_sub (e_bin ok_add (e_glob (hd := by decide +kernel) H.v_CONST_BITS rfl) (e_glob (hd := by decide +kernel) H.v_PASS_BITS rfl)) (e_int)) (es_nil))) rfl (noStar1 (he := by intro _; exact ⟨_, _, rfl⟩))) (es_nil)))) es_nil) (hns := (noStar1 (he := by intro _; exact ⟨_, _, rfl⟩)))) (ss_cons (x_ext (he := by intro env; exact ⟨_, rfl⟩) (hp := by intro _; rfl) (hd := by decide +kernel) (hn := by decide +kernel) (es_cons (he := by intro _; rfl) (e_list (es_cons (he := by intro _; rfl) (e_callF (hd := by decide +kernel) (globFn H.g_descaled H.f_393) (s_descaled H) (by decide) (es_cons (he := by intro _; rfl) (e_loc (hd := by decide +kernel) (hn := by decide +kernel)) (es_cons (he := by intro _; rfl) (e_bin ok_sub (e_glob (hd := by decide +kernel) H.v_PASS_BITS rfl) (e_int)) (es_nil))) rfl (noStar1 (he := by intro _; exact ⟨_, _, rfl⟩))) (es_cons (he := by intro _; rfl) (e_callF (hd := by decide +kernel) (globFn H.g_descaled H.f_393) (s_descaled H) (by decide) (es_cons (he := by intro _; rfl) (e_loc (hd := by decide +kernel) (hn := by decide +kernel)) (es_cons (he := by intro _; rfl) (e_bin ok_sub (e_bin ok_add (e_glob (hd := by decide +kernel) H.v_CONST_BITS rfl) (e_glob (hd := by decide +kernel) H.v_PASS_BITS rfl)) (e_int)) (es_nil))) rfl (noStar1 (he := by intro _; exact ⟨_, _, rfl⟩))) (es_nil)))) es_nil) (hns := (noStar1 (he := by intro _; exact ⟨_, _, rfl⟩)))) (ss_nil)))) (by decide +kernel)) (ss_freeze (x := "found") (ss_cons (x_ret (e_callF (hd := by decide +kernel) (globFn H.g_turned H.f_414) (s_turned H) (by decide) (es_cons (he := by intro _; rfl) (e_loc (hd := by decide +kernel) (hn := by decide +kernel)) (es_cons (he := by intro _; rfl) (e_glob (hd := by decide +kernel) H.v_SIDE_dct_small rfl) (es_nil))) rfl (noStar1 (he := by intro _; exact ⟨_, _, rfl⟩)))) (ss_nil)))))))))
theorem s_TwoDct_sums {c : Cx} (H : Facts c) : FSound c 1 509 d_TwoDct_sums := fn_plain H.f_509 rfl rfl rfl rfl (show SSound c 0 _ _ b_TwoDct_sums from ss_cons (x_unp (hs := by intro _; rfl) (hw := by intro _; rfl) (ns := [("a", _), ("b", _), ("c", _), ("d", _)]) (e_loc (hd := by decide +kernel) (hn := by decide +kernel)) (by decide +kernel)) (ss_cons (x_ret (e_list (es_cons (he := by intro _; rfl) (e_bin ok_add (e_bin ok_add (e_bin ok_add (e_loc (hd := by decide +kernel) (hn := by decide +kernel)) (e_loc (hd := by decide +kernel) (hn := by decide +kernel))) (e_loc (hd := by decide +kernel) (hn := by decide +kernel))) (e_loc (hd := by decide +kernel) (hn := by decide +kernel))) (es_cons (he := by intro _; rfl) (e_bin ok_sub (e_bin ok_add (e_bin ok_sub (e_loc (hd := by decide +kernel) (hn := by decide +kernel)) (e_loc (hd := by decide +kernel) (hn := by decide +kernel))) (e_loc (hd := by decide +kernel) (hn := by decide +kernel))) (e_loc (hd := by decide +kernel) (hn := by decide +kernel))) (es_cons (he := by intro _; rfl) (e_bin ok_sub (e_bin ok_sub (e_bin ok_add (e_loc (hd := by decide +kernel) (hn := by decide +kernel)) (e_loc (hd := by decide +kernel) (hn := by decide +kernel))) (e_loc (hd := by decide +kernel) (hn := by decide +kernel))) (e_loc (hd := by decide +kernel) (hn := by decide +kernel))) (es_cons (he := by intro _; rfl) (e_bin ok_add (e_bin ok_sub (e_bin ok_sub (e_loc (hd := by decide +kernel) (hn := by decide +kernel)) (e_loc (hd := by decide +kernel) (hn := by decide +kernel))) (e_loc (hd := by decide +kernel) (hn := by decide +kernel))) (e_loc (hd := by decide +kernel) (hn := by decide +kernel))) (es_nil))))))) (ss_nil)))
theorem s_TwoDct_forward {c : Cx} (H : Facts c) : FSound c 2 497 d_TwoDct_forward := fn_plain H.f_497 rfl rfl rfl rfl (show SSound c 1 _ _ b_TwoDct_forward from ss_cons (x_ret (e_comp (hs := by intro _ _; rfl) (e_meth (he := by intro env; exact ⟨_, rfl⟩) (e_loc (hd := by decide +kernel) (hn := by decide +kernel)) (es_cons (he := by intro _; rfl) (e_loc (hd := by decide +kernel) (hn := by decide +kernel)) (es_nil)) (meth1 H.m_512_sums ((s_TwoDct_sums H).less (by decide : _ ≤ 1)) H.f_509) (by decide : 1 ≤ _) (noStar1 (he := by intro _; exact ⟨_, _, rfl⟩))) (e_bin ok_mul (e_loc (hd := by decide +kernel) (hn := by decide +kernel)) (e_int)) rfl rfl rfl)) (ss_nil))
theorem s_OneDct_forward {c : Cx} (H : Facts c) : FSound c 1 530 d_OneDct_forward := fn_plain H.f_530 rfl rfl rfl rfl (show SSound c 0 _ _ b_OneDct_forward from ss_cons (x_ret (e_list (es_cons (he := by intro _; rfl) (e_bin ok_mul (e_item (hs := by intro _ _; rfl) (e_loc (hd := by decide +kernel) (hn := by decide +kernel)) (e_int)) (e_int)) (es_nil)))) (ss_nil))
theorem s_picked_transform {c : Cx} (H : Facts c) : FSound c 1 551 d_picked_transform := fn_plain H.f_551 rfl rfl rfl rfl (show SSound c 0 _ _ b_picked_transform from ss_cons (x_if (t_cmp ok_eq (e_loc (hd := by decide +kernel) (hn := by decide +kernel)) (e_int)) (ss_cons (x_ret (e_new0 (hd := by decide +kernel) H.g_IslowDct (by decide) H.i_IslowDct rfl)) (ss_nil)) (ss_nil)) (ss_cons (x_if (t_cmp ok_eq (e_loc (hd := by decide +kernel) (hn := by decide +kernel)) (e_int)) (ss_cons (x_ret (e_new0 (hd := by decide +kernel) H.g_FourDct (by decide) H.i_FourDct rfl)) (ss_nil)) (ss_nil)) (ss_cons (x_if (t_cmp ok_eq (e_loc (hd := by decide +kernel) (hn := by decide +kernel)) (e_int)) (ss_cons (x_ret (e_new0 (hd := by decide +kernel) H.g_TwoDct (by decide) H.i_TwoDct rfl)) (ss_nil)) (ss_nil)) (ss_cons (x_if (t_cmp ok_eq (e_loc (hd := by decide +kernel) (hn := by decide +kernel)) (e_int)) (ss_cons (x_ret (e_new0 (hd := by decide +kernel) H.g_OneDct (by decide) H.i_OneDct rfl)) (ss_nil)) (ss_nil)) (ss_none)))))
theorem s_forward {c : Cx} (H : Facts c) : FSound c 4 558 d_forward := fn_plain H.f_558 rfl rfl rfl rfl (show SSound c 3 _ _ b_forward from ss_cons (x_ret (e_meth (he := by intro env; exact ⟨_, rfl⟩) (e_callF (hd := by decide +kernel) (globFn H.g_picked_transform H.f_551) (s_picked_transform H) (by decide) (es_cons (he := by intro _; rfl) (e_loc (hd := by decide +kernel) (hn := by decide +kernel)) (es_nil)) rfl (noStar1 (he := by intro _; exact ⟨_, _, rfl⟩))) (es_cons (he := by intro _; rfl) (e_loc (hd := by decide +kernel) (hn := by decide +kernel)) (es_nil)) (methOr (meth1 H.m_455_forward ((s_IslowDct_forward H).less (by decide : _ ≤ 3)) H.f_445) (methOr (meth1 H.m_481_forward ((s_FourDct_forward H).less (by decide : _ ≤ 3)) H.f_473) (methOr (meth1 H.m_512_forward ((s_TwoDct_forward H).less (by decide : _ ≤ 3)) H.f_497) (meth1 H.m_540_forward ((s_OneDct_forward H).less (by decide : _ ≤ 3)) H.f_530)))) (by decide : 3 ≤ _) (noStar1 (he := by intro _; exact ⟨_, _, rfl⟩)))) (ss_nil))
theorem s_kept_in {c : Cx} (H : Facts c) : FSound c 1 748 d_kept_in := fn_plain H.f_748 rfl rfl rfl rfl (show SSound c 0 _ _ b_kept_in from ss_cons (x_if (t_cmp ok_lt (e_loc (hd := by decide +kernel) (hn := by decide +kernel)) (e_int)) (ss_cons (x_ret (e_int)) (ss_nil)) (ss_nil)) (ss_cons (x_ret (e_if (t_cmp ok_lt (e_loc (hd := by decide +kernel) (hn := by decide +kernel)) (e_loc (hd := by decide +kernel) (hn := by decide +kernel))) (e_loc (hd := by decide +kernel) (hn := by decide +kernel)) (e_bin ok_sub (e_loc (hd := by decide +kernel) (hn := by decide +kernel)) (e_int)))) (ss_nil)))
theorem s_Plane_at {c : Cx} (H : Facts c) : FSound c 2 727 d_Plane_at := fn_plain H.f_727 rfl rfl rfl rfl (show SSound c 1 _ _ b_Plane_at from ss_cons (x_ret (e_item (hs := by intro _ _; rfl) (e_item (hs := by intro _ _; rfl) (e_attr (he := by intro _; rfl) (e_loc (hd := by decide +kernel) (hn := by decide +kernel)) H.a_rows) (e_callF (hd := by decide +kernel) (globFn H.g_kept_in H.f_748) (s_kept_in H) (by decide) (es_cons (he := by intro _; rfl) (e_loc (hd := by decide +kernel) (hn := by decide +kernel)) (es_cons (he := by intro _; rfl) (e_attr (he := by intro _; rfl) (e_loc (hd := by decide +kernel) (hn := by decide +kernel)) H.a_height) (es_nil))) rfl (noStar1 (he := by intro _; exact ⟨_, _, rfl⟩)))) (e_callF (hd := by decide +kernel) (globFn H.g_kept_in H.f_748) (s_kept_in H) (by decide) (es_cons (he := by intro _; rfl) (e_loc (hd := by decide +kernel) (hn := by decide +kernel)) (es_cons (he := by intro _; rfl) (e_attr (he := by intro _; rfl) (e_loc (hd := by decide +kernel) (hn := by decide +kernel)) H.a_width) (es_nil))) rfl (noStar1 (he := by intro _; exact ⟨_, _, rfl⟩))))) (ss_nil))
theorem s_block_of {c : Cx} (H : Facts c) : FSound c 3 26 d_block_of := fn_plain H.f_26 rfl rfl rfl rfl (show SSound c 2 _ _ b_block_of from ss_cons (x_own (es_nil) (by decide +kernel)) (ss_cons (x_for (hs := by intro _ _; rfl) (e_callB (hp := by intro _; rfl) (hd := by decide +kernel) H.b_range (.inr ⟨_, rfl⟩) ok_range (es_cons (he := by intro _; rfl) (e_bin ok_mul (e_loc (hd := by decide +kernel) (hn := by decide +kernel)) (e_loc (hd := by decide +kernel) (hn := by decide +kernel))) (es_cons (he := by intro _; rfl) (e_bin ok_add (e_bin ok_mul (e_loc (hd := by decide +kernel) (hn := by decide +kernel)) (e_loc (hd := by decide +kernel) (hn := by decide +kernel))) (e_loc (hd := by decide +kernel) (hn := by decide +kernel))) (es_nil))) rfl (noStar1 (he := by intro _; exact ⟨_, _, rfl⟩))) (ss_cons (x_ext (he := by intro env; exact ⟨_, rfl⟩) (hp := by intro _; rfl) (hd := by decide +kernel) (hn := by decide +kernel) (es_cons (he := by intro _; rfl) (e_comp (hs := by intro _ _; rfl) (e_callB (hp := by intro _; rfl) (hd := by decide +kernel) H.b_range (.inr ⟨_, rfl⟩) ok_range (es_cons (he := by intro _; rfl) (e_bin ok_mul (e_loc (hd := by decide +kernel) (hn := by decide +kernel)) (e_loc (hd := by decide +kernel) (hn := by decide +kernel))) (es_cons (he := by intro _; rfl) (e_bin ok_add (e_bin ok_mul (e_loc (hd := by decide +kernel) (hn := by decide +kernel)) (e_loc (hd := by decide +kernel) (hn := by decide +kernel))) (e_loc (hd := by decide +kernel) (hn := by decide +kernel))) (es_nil))) rfl (noStar1 (he := by intro _; exact ⟨_, _, rfl⟩))) (e_bin ok_sub (e_meth (he := by intro env; exact ⟨_, rfl⟩) (e_loc (hd := by decide +kernel) (hn := by decide +kernel)) (es_cons (he := by intro _; rfl) (e_loc (hd := by decide +kernel) (hn := by decide +kernel)) (es_cons (he := by intro _; rfl) (e_loc (hd := by decide +kernel) (hn := by decide +kernel)) (es_nil))) (meth1 H.m_737_at ((s_Plane_at H).less (by decide : _ ≤ 2)) H.f_727) (by decide : 2 ≤ _) (noStar1 (he := by intro _; exact ⟨_, _, rfl⟩))) (e_loc (hd := by decide +kernel) (hn := by decide +kernel))) rfl rfl rfl) es_nil) (hns := (noStar1 (he := by intro _; exact ⟨_, _, rfl⟩)))) (ss_nil)) (by decide +kernel)) (ss_freeze (x := "found") (ss_cons (x_ret (e_loc (hd := by decide +kernel) (hn := by decide +kernel))) (ss_nil)))))
theorem s_coded_block {c : Cx} (H : Facts c) : FSound c 5 572 d_coded_block := fn_plain H.f_572 rfl rfl rfl rfl (show SSound c 4 _ _ b_coded_block from ss_cons (x_asg (hs := by intro _; rfl) (e_callF (hd := by decide +kernel) (globFn H.g_to_row H.f_321) (s_to_row H) (by decide) (es_cons (he := by intro _; rfl) (e_callF (hd := by decide +kernel) (globFn H.g_forward H.f_558) (s_forward H) (by decide) (es_cons (he := by intro _; rfl) (e_callF (hd := by decide +kernel) (globFn H.g_block_of H.f_26) (s_block_of H) (by decide) (es_cons (he := by intro _; rfl) (e_loc (hd := by decide +kernel) (hn := by decide +kernel)) (es_cons (he := by intro _; rfl) (e_loc (hd := by decide +kernel) (hn := by decide +kernel)) (es_cons (he := by intro _; rfl) (e_loc (hd := by decide +kernel) (hn := by decide +kernel)) (es_cons (he := by intro _; rfl) (e_loc (hd := by decide +kernel) (hn := by decide +kernel)) (es_cons (he := by intro _; rfl) (e_loc (hd := by decide +kernel) (hn := by decide +kernel)) (es_nil)))))) rfl (noStar1 (he := by intro _; exact ⟨_, _, rfl⟩))) (es_cons (he := by intro _; rfl) (e_loc (hd := by decide +kernel) (hn := by decide +kernel)) (es_nil))) rfl (noStar1 (he := by intro _; exact ⟨_, _, rfl⟩))) (es_cons (he := by intro _; rfl) (e_loc (hd := by decide +kernel) (hn := by decide +kernel)) (es_nil))) rfl (noStar1 (he := by intro _; exact ⟨_, _, rfl⟩))) (by decide +kernel)) (ss_cons (x_ret (e_callF (hd := by decide +kernel) (globFn H.g_quantise H.f_52) (s_quantise H) (by decide) (es_cons (he := by intro _; rfl) (e_loc (hd := by decide +kernel) (hn := by decide +kernel)) (es_cons (he := by intro _; rfl) (e_loc (hd := by decide +kernel) (hn := by decide +kernel)) (es_cons (he := by intro _; rfl) (e_glob (hd := by decide +kernel) H.v_SCALE rfl) (es_nil)))) rfl (noStar1 (he := by intro _; exact ⟨_, _, rfl⟩)))) (ss_nil)))
theorem s_put_component {c : Cx} (H : Facts c) : FSound c 6 579 d_put_component := fn_plain H.f_579 rfl rfl rfl rfl (show SSound c 5 _ _ b_put_component from ss_cons (x_unp (hs := by intro _; rfl) (hw := by intro _; rfl) (ns := [("across", _), ("down", _)]) (e_meth (he := by intro env; exact ⟨_, rfl⟩) (e_loc (hd := by decide +kernel) (hn := by decide +kernel)) (es_cons (he := by intro _; rfl) (e_loc (hd := by decide +kernel) (hn := by decide +kernel)) (es_nil)) (meth1 H.m_669_blocks ((s_Frame_blocks H).less (by decide : _ ≤ 3)) H.f_659) (by decide : 3 ≤ _) (noStar1 (he := by intro _; exact ⟨_, _, rfl⟩))) (by decide +kernel)) (ss_cons (x_asg (hs := by intro _; rfl) (e_bin ok_shl (e_int) (e_bin ok_sub (e_attr (he := by intro _; rfl) (e_loc (hd := by decide +kernel) (hn := by decide +kernel)) H.a_precision) (e_int))) (by decide +kernel)) (ss_cons (x_for (hs := by intro _ _; rfl) (e_callB (hp := by intro _; rfl) (hd := by decide +kernel) H.b_range (.inr ⟨_, rfl⟩) ok_range (es_cons (he := by intro _; rfl) (e_loc (hd := by decide +kernel) (hn := by decide +kernel)) (es_nil)) rfl (noStar1 (he := by intro _; exact ⟨_, _, rfl⟩))) (ss_cons (x_for (hs := by intro _ _; rfl) (e_callB (hp := by intro _; rfl) (hd := by decide +kernel) H.b_range (.inr ⟨_, rfl⟩) ok_range (es_cons (he := by intro _; rfl) (e_loc (hd := by decide +kernel) (hn := by decide +kernel)) (es_nil)) rfl (noStar1 (he := by intro _; exact ⟨_, _, rfl⟩))) (ss_cons (x_expr (hs := by intro _; rfl) (e_meth (he := by intro env; exact ⟨_, rfl⟩) (e_loc (hd := by decide +kernel) (hn := by decide +kernel)) (es_cons (he := by intro _; rfl) (e_loc (hd := by decide +kernel) (hn := by decide +kernel)) (es_cons (he := by intro _; rfl) (e_loc (hd := by decide +kernel) (hn := by decide +kernel)) (es_cons (he := by intro _; rfl) (e_loc (hd := by decide +kernel) (hn := by decide +kernel)) (es_cons (he := by intro _; rfl) (e_callF (hd := by decide +kernel) (globFn H.g_coded_block H.f_572) (s_coded_block H) (by decide) (es_cons (he := by intro _; rfl) (e_loc (hd := by decide +kernel) (hn := by decide +kernel)) (es_cons (he := by intro _; rfl) (e_loc (hd := by decide +kernel) (hn := by decide +kernel)) (es_cons (he := by intro _; rfl) (e_loc (hd := by decide +kernel) (hn := by decide +kernel)) (es_cons (he := by intro _; rfl) (e_attr (he := by intro _; rfl) (e_loc (hd := by decide +kernel) (hn := by decide +kernel)) H.a_n) (es_cons (he := by intro _; rfl) (e_loc (hd := by decide +kernel) (hn := by decide +kernel)) (es_cons (he := by intro _; rfl) (e_loc (hd := by decide +kernel) (hn := by decide +kernel)) (es_nil))))))) rfl (noStar1 (he := by intro _; exact ⟨_, _, rfl⟩))) (es_nil))))) (meth1 H.m_702_put ((s_Grid_put H).less (by decide : _ ≤ 1)) H.f_699) (by decide : 1 ≤ _) (noStar1 (he := by intro _; exact ⟨_, _, rfl⟩)))) (ss_nil)) (by decide +kernel)) (ss_nil)) (by decide +kernel)) (ss_nil))))
theorem s_Frame_mcus_across {c : Cx} (H : Facts c) : FSound c 2 638 d_Frame_mcus_across := fn_plain H.f_638 rfl rfl rfl rfl (show SSound c 1 _ _ b_Frame_mcus_across from ss_cons (x_ret (e_callF (hd := by decide +kernel) (globFn H.g_parts H.f_586) (s_parts H) (by decide) (es_cons (he := by intro _; rfl) (e_attr (he := by intro _; rfl) (e_loc (hd := by decide +kernel) (hn := by decide +kernel)) H.a_width) (es_cons (he := by intro _; rfl) (e_bin ok_mul (e_attr (he := by intro _; rfl) (e_loc (hd := by decide +kernel) (hn := by decide +kernel)) H.a_n) (e_meth (he := by intro env; exact ⟨_, rfl⟩) (e_loc (hd := by decide +kernel) (hn := by decide +kernel)) (es_nil) (meth1 H.m_669_most_across ((s_Frame_most_across H).less (by decide : _ ≤ 1)) H.f_626) (by decide : 1 ≤ _) noStar0)) (es_nil))) rfl (noStar1 (he := by intro _; exact ⟨_, _, rfl⟩)))) (ss_nil))
theorem s_Frame_mcus_down {c : Cx} (H : Facts c) : FSound c 2 645 d_Frame_mcus_down := fn_plain H.f_645 rfl rfl rfl rfl (show SSound c 1 _ _ b_Frame_mcus_down from ss_cons (x_ret (e_callF (hd := by decide +kernel) (globFn H.g_parts H.f_586) (s_parts H) (by decide) (es_cons (he := by intro _; rfl) (e_attr (he := by intro _; rfl) (e_loc (hd := by decide +kernel) (hn := by decide +kernel)) H.a_height) (es_cons (he := by intro _; rfl) (e_bin ok_mul (e_attr (he := by intro _; rfl) (e_loc (hd := by decide +kernel) (hn := by decide +kernel)) H.a_n) (e_meth (he := by intro env; exact ⟨_, rfl⟩) (e_loc (hd := by decide +kernel) (hn := by decide +kernel)) (es_nil) (meth1 H.m_669_most_down ((s_Frame_most_down H).less (by decide : _ ≤ 1)) H.f_631) (by decide : 1 ≤ _) noStar0)) (es_nil))) rfl (noStar1 (he := by intro _; exact ⟨_, _, rfl⟩)))) (ss_nil))
theorem s_Frame_padded {c : Cx} (H : Facts c) : FSound c 3 666 d_Frame_padded := fn_plain H.f_666 rfl rfl rfl rfl (show SSound c 2 _ _ b_Frame_padded from ss_cons (x_asg (hs := by intro _; rfl) (e_item (hs := by intro _ _; rfl) (e_attr (he := by intro _; rfl) (e_loc (hd := by decide +kernel) (hn := by decide +kernel)) H.a_components) (e_loc (hd := by decide +kernel) (hn := by decide +kernel))) (by decide +kernel)) (ss_cons (x_ret (e_tup (es_cons (he := by intro _; rfl) (e_bin ok_mul (e_meth (he := by intro env; exact ⟨_, rfl⟩) (e_loc (hd := by decide +kernel) (hn := by decide +kernel)) (es_nil) (meth1 H.m_669_mcus_across ((s_Frame_mcus_across H).less (by decide : _ ≤ 2)) H.f_638) (by decide : 2 ≤ _) noStar0) (e_attr (he := by intro _; rfl) (e_loc (hd := by decide +kernel) (hn := by decide +kernel)) H.a_across)) (es_cons (he := by intro _; rfl) (e_bin ok_mul (e_meth (he := by intro env; exact ⟨_, rfl⟩) (e_loc (hd := by decide +kernel) (hn := by decide +kernel)) (es_nil) (meth1 H.m_669_mcus_down ((s_Frame_mcus_down H).less (by decide : _ ≤ 2)) H.f_645) (by decide : 2 ≤ _) noStar0) (e_attr (he := by intro _; rfl) (e_loc (hd := by decide +kernel) (hn := by decide +kernel)) H.a_down)) (es_nil))))) (ss_nil)))
theorem s__law_rows {c : Cx} (H : Facts c) : FSound c 2 809 d__law_rows := fn_plain H.f_809 rfl rfl rfl rfl (show SSound c 1 _ _ b__law_rows from ss_cons (x_asg (hs := by intro _; rfl) (e_callF (hd := by decide +kernel) (globFn H.g__law_from H.f_785) (s__law_from H) (by decide) (es_cons (he := by intro _; rfl) (e_loc (hd := by decide +kernel) (hn := by decide +kernel)) (es_cons (he := by intro _; rfl) (e_int) (es_nil))) rfl (noStar1 (he := by intro _; exact ⟨_, _, rfl⟩))) (by decide +kernel)) (ss_cons (x_if (t_cmp ok_eq (e_loc (hd := by decide +kernel) (hn := by decide +kernel)) (e_int)) (ss_cons (x_asg (hs := by intro _; rfl) (e_callF (hd := by decide +kernel) (globFn H.g__law_from H.f_785) (s__law_from H) (by decide) (es_cons (he := by intro _; rfl) (e_loc (hd := by decide +kernel) (hn := by decide +kernel)) (es_cons (he := by intro _; rfl) (e_bin ok_add (e_loc (hd := by decide +kernel) (hn := by decide +kernel)) (e_int)) (es_nil))) rfl (noStar1 (he := by intro _; exact ⟨_, _, rfl⟩))) (by decide +kernel)) (ss_cons (x_ret (e_comp (hs := by intro _ _; rfl) (e_callB (hp := by intro _; rfl) (hd := by decide +kernel) H.b_range (.inr ⟨_, rfl⟩) ok_range (es_cons (he := by intro _; rfl) (e_loc (hd := by decide +kernel) (hn := by decide +kernel)) (es_nil)) rfl (noStar1 (he := by intro _; exact ⟨_, _, rfl⟩))) (e_bin ok_times (e_list (es_cons (he := by intro _; rfl) (e_loc (hd := by decide +kernel) (hn := by decide +kernel)) (es_nil))) (e_loc (hd := by decide +kernel) (hn := by decide +kernel))) rfl rfl rfl)) (ss_nil))) (ss_nil)) (ss_cons (x_if (t_cmp ok_eq (e_loc (hd := by decide +kernel) (hn := by decide +kernel)) (e_int)) (ss_cons (x_ret (e_comp (hs := by intro _ _; rfl) (e_callB (hp := by intro _; rfl) (hd := by decide +kernel) H.b_range (.inr ⟨_, rfl⟩) ok_range (es_cons (he := by intro _; rfl) (e_loc (hd := by decide +kernel) (hn := by decide +kernel)) (es_nil)) rfl (noStar1 (he := by intro _; exact ⟨_, _, rfl⟩))) (e_comp (hs := by intro _ _; rfl) (e_callB (hp := by intro _; rfl) (hd := by decide +kernel) H.b_range (.inr ⟨_, rfl⟩) ok_range (es_cons (he := by intro _; rfl) (e_loc (hd := by decide +kernel) (hn := by decide +kernel)) (es_nil)) rfl (noStar1 (he := by intro _; exact ⟨_, _, rfl⟩))) (e_bin ok_mul (e_callF (hd := by decide +kernel) (globFn H.g__law_from H.f_785) (s__law_from H) (by decide) (es_cons (he := by intro _; rfl) (e_loc (hd := by decide +kernel) (hn := by decide +kernel)) (es_cons (he := by intro _; rfl) (e_int) (es_nil))) rfl (noStar1 (he := by intro _; exact ⟨_, _, rfl⟩))) (e_loc (hd := by decide +kernel) (hn := by decide +kernel))) rfl rfl rfl) rfl rfl rfl)) (ss_nil)) (ss_nil)) (ss_cons (x_ret (e_comp (hs := by intro _ _; rfl) (e_callB (hp := by intro _; rfl) (hd := by decide +kernel) H.b_range (.inr ⟨_, rfl⟩) ok_range (es_cons (he := by intro _; rfl) (e_loc (hd := by decide +kernel) (hn := by decide +kernel)) (es_nil)) rfl (noStar1 (he := by intro _; exact ⟨_, _, rfl⟩))) (e_comp (hs := by intro _ _; rfl) (e_callB (hp := by intro _; rfl) (hd := by decide +kernel) H.b_range (.inr ⟨_, rfl⟩) ok_range (es_cons (he := by intro _; rfl) (e_loc (hd := by decide +kernel) (hn := by decide +kernel)) (es_nil)) rfl (noStar1 (he := by intro _; exact ⟨_, _, rfl⟩))) (e_callF (hd := by decide +kernel) (globFn H.g__law_from H.f_785) (s__law_from H) (by decide) (es_cons (he := by intro _; rfl) (e_loc (hd := by decide +kernel) (hn := by decide +kernel)) (es_cons (he := by intro _; rfl) (e_bin ok_add (e_loc (hd := by decide +kernel) (hn := by decide +kernel)) (e_int)) (es_nil))) rfl (noStar1 (he := by intro _; exact ⟨_, _, rfl⟩))) rfl rfl rfl) rfl rfl rfl)) (ss_nil)))))
theorem s_Plane_init {c : Cx} (H : Facts c) : FSound c 1 720 d_Plane_init := fn_plain H.f_720 rfl rfl rfl rfl (show SSound c 0 _ _ b_Plane_init from ss_cons (x_set (hs := by intro _; rfl) (e_loc (hd := by decide +kernel) (hn := by decide +kernel)) (e_loc (hd := by decide +kernel) (hn := by decide +kernel)) H.s_width) (ss_cons (x_set (hs := by intro _; rfl) (e_loc (hd := by decide +kernel) (hn := by decide +kernel)) (e_loc (hd := by decide +kernel) (hn := by decide +kernel)) H.s_height) (ss_cons (x_set (hs := by intro _; rfl) (e_loc (hd := by decide +kernel) (hn := by decide +kernel)) (e_loc (hd := by decide +kernel) (hn := by decide +kernel)) H.s_rows) (ss_nil))))
theorem s_Grid_init {c : Cx} (H : Facts c) : FSound c 4 685 d_Grid_init := fn_plain H.f_685 rfl rfl rfl rfl (show SSound c 3 _ _ b_Grid_init from ss_cons (x_set (hs := by intro _; rfl) (e_bin ok_mul (e_attr (he := by intro _; rfl) (e_loc (hd := by decide +kernel) (hn := by decide +kernel)) H.a_n) (e_attr (he := by intro _; rfl) (e_loc (hd := by decide +kernel) (hn := by decide +kernel)) H.a_n)) (e_loc (hd := by decide +kernel) (hn := by decide +kernel)) H.s_many) (ss_cons (x_set (hs := by intro _; rfl) (e_listG es_nil) (e_loc (hd := by decide +kernel) (hn := by decide +kernel)) H.s_planes) (ss_cons (x_for (hs := by intro _ _; rfl) (e_callB (hp := by intro _; rfl) (hd := by decide +kernel) H.b_range (.inr ⟨_, rfl⟩) ok_range (es_cons (he := by intro _; rfl) (e_callB (hp := by intro _; rfl) (hd := by decide +kernel) H.b_len (.inl ⟨_, rfl⟩) ok_len (es_cons (he := by intro _; rfl) (e_attr (he := by intro _; rfl) (e_loc (hd := by decide +kernel) (hn := by decide +kernel)) H.a_components) (es_nil)) rfl (noStar1 (he := by intro _; exact ⟨_, _, rfl⟩))) (es_nil)) rfl (noStar1 (he := by intro _; exact ⟨_, _, rfl⟩))) (ss_cons (x_unp (hs := by intro _; rfl) (hw := by intro _; rfl) (ns := [("across", _), ("down", _)]) (e_meth (he := by intro env; exact ⟨_, rfl⟩) (e_loc (hd := by decide +kernel) (hn := by decide +kernel)) (es_cons (he := by intro _; rfl) (e_loc (hd := by decide +kernel) (hn := by decide +kernel)) (es_nil)) (meth1 H.m_669_padded ((s_Frame_padded H).less (by decide : _ ≤ 3)) H.f_666) (by decide : 3 ≤ _) (noStar1 (he := by intro _; exact ⟨_, _, rfl⟩))) (by decide +kernel)) (ss_cons (x_expr (hs := by intro _; rfl) (e_push (he := by intro env; exact ⟨_, rfl⟩) (hp := by intro _; rfl) (e_attr (he := by intro _; rfl) (e_loc (hd := by decide +kernel) (hn := by decide +kernel)) H.a_planes) (es_cons (he := by intro _; rfl) (e_comp (hs := by intro _ _; rfl) (e_callB (hp := by intro _; rfl) (hd := by decide +kernel) H.b_range (.inr ⟨_, rfl⟩) ok_range (es_cons (he := by intro _; rfl) (e_loc (hd := by decide +kernel) (hn := by decide +kernel)) (es_nil)) rfl (noStar1 (he := by intro _; exact ⟨_, _, rfl⟩))) (e_timesM (e_list (es_cons (he := by intro _; rfl) (e_none) (es_nil))) (e_loc (hd := by decide +kernel) (hn := by decide +kernel))) rfl rfl rfl) (es_nil)) (hns := (noStar1 (he := by intro _; exact ⟨_, _, rfl⟩))))) (ss_nil))) (by decide +kernel)) (ss_nil))))
theorem s__law_block {c : Cx} (H : Facts c) : FSound c 1 814 d__law_block := fn_plain H.f_814 rfl rfl rfl rfl (show SSound c 0 _ _ b__law_block from ss_cons (x_asg (hs := by intro _; rfl) (e_list (es_nil)) (by decide +kernel)) (ss_cons (x_for (hs := by intro _ _; rfl) (e_callB (hp := by intro _; rfl) (hd := by decide +kernel) H.b_range (.inr ⟨_, rfl⟩) ok_range (es_cons (he := by intro _; rfl) (e_bin ok_mul (e_loc (hd := by decide +kernel) (hn := by decide +kernel)) (e_loc (hd := by decide +kernel) (hn := by decide +kernel))) (es_cons (he := by intro _; rfl) (e_bin ok_add (e_bin ok_mul (e_loc (hd := by decide +kernel) (hn := by decide +kernel)) (e_loc (hd := by decide +kernel) (hn := by decide +kernel))) (e_loc (hd := by decide +kernel) (hn := by decide +kernel))) (es_nil))) rfl (noStar1 (he := by intro _; exact ⟨_, _, rfl⟩))) (ss_cons (x_asg (hs := by intro _; rfl) (e_item (hs := by intro _ _; rfl) (e_loc (hd := by decide +kernel) (hn := by decide +kernel)) (e_callB (hp := by intro _; rfl) (hd := by decide +kernel) H.b_min (.inl ⟨_, rfl⟩) ok_min2 (es_cons (he := by intro _; rfl) (e_loc (hd := by decide +kernel) (hn := by decide +kernel)) (es_cons (he := by intro _; rfl) (e_bin ok_sub (e_callB (hp := by intro _; rfl) (hd := by decide +kernel) H.b_len (.inl ⟨_, rfl⟩) ok_len (es_cons (he := by intro _; rfl) (e_loc (hd := by decide +kernel) (hn := by decide +kernel)) (es_nil)) rfl (noStar1 (he := by intro _; exact ⟨_, _, rfl⟩))) (e_int)) (es_nil))) rfl (noStar1 (he := by intro _; exact ⟨_, _, rfl⟩)))) (by decide +kernel)) (ss_cons (x_asg (hs := by intro _; rfl) (e_bin ok_cat (e_loc (hd := by decide +kernel) (hn := by decide +kernel)) (e_comp (hs := by intro _ _; rfl) (e_callB (hp := by intro _; rfl) (hd := by decide +kernel) H.b_range (.inr ⟨_, rfl⟩) ok_range (es_cons (he := by intro _; rfl) (e_bin ok_mul (e_loc (hd := by decide +kernel) (hn := by decide +kernel)) (e_loc (hd := by decide +kernel) (hn := by decide +kernel))) (es_cons (he := by intro _; rfl) (e_bin ok_add (e_bin ok_mul (e_loc (hd := by decide +kernel) (hn := by decide +kernel)) (e_loc (hd := by decide +kernel) (hn := by decide +kernel))) (e_loc (hd := by decide +kernel) (hn := by decide +kernel))) (es_nil))) rfl (noStar1 (he := by intro _; exact ⟨_, _, rfl⟩))) (e_bin ok_sub (e_item (hs := by intro _ _; rfl) (e_loc (hd := by decide +kernel) (hn := by decide +kernel)) (e_callB (hp := by intro _; rfl) (hd := by decide +kernel) H.b_min (.inl ⟨_, rfl⟩) ok_min2 (es_cons (he := by intro _; rfl) (e_loc (hd := by decide +kernel) (hn := by decide +kernel)) (es_cons (he := by intro _; rfl) (e_bin ok_sub (e_callB (hp := by intro _; rfl) (hd := by decide +kernel) H.b_len (.inl ⟨_, rfl⟩) ok_len (es_cons (he := by intro _; rfl) (e_loc (hd := by decide +kernel) (hn := by decide +kernel)) (es_nil)) rfl (noStar1 (he := by intro _; exact ⟨_, _, rfl⟩))) (e_int)) (es_nil))) rfl (noStar1 (he := by intro _; exact ⟨_, _, rfl⟩)))) (e_loc (hd := by decide +kernel) (hn := by decide +kernel))) rfl rfl rfl)) (by decide +kernel)) (ss_nil))) (by decide +kernel)) (ss_cons (x_ret (e_loc (hd := by decide +kernel) (hn := by decide +kernel))) (ss_nil))))
theorem s__law_rounded {c : Cx} (H : Facts c) : FSound c 1 804 d__law_rounded := fn_plain H.f_804 rfl rfl rfl rfl (show SSound c 0 _ _ b__law_rounded from ss_cons (x_asg (hs := by intro _; rfl) (e_bin ok_div (e_bin ok_add (e_bin ok_mul (e_int) (e_callB (hp := by intro _; rfl) (hd := by decide +kernel) H.b_abs (.inl ⟨_, rfl⟩) ok_abs (es_cons (he := by intro _; rfl) (e_loc (hd := by decide +kernel) (hn := by decide +kernel)) (es_nil)) rfl (noStar1 (he := by intro _; exact ⟨_, _, rfl⟩)))) (e_loc (hd := by decide +kernel) (hn := by decide +kernel))) (e_bin ok_mul (e_int) (e_loc (hd := by decide +kernel) (hn := by decide +kernel)))) (by decide +kernel)) (ss_cons (x_ret (e_if (t_cmp ok_gt (e_loc (hd := by decide +kernel) (hn := by decide +kernel)) (e_int)) (e_loc (hd := by decide +kernel) (hn := by decide +kernel)) (e_bin ok_sub (e_int) (e_loc (hd := by decide +kernel) (hn := by decide +kernel))))) (ss_nil)))
theorem s__law_sums {c : Cx} (H : Facts c) : FSound c 1 821 d__law_sums := fn_plain H.f_821 rfl rfl rfl rfl (show SSound c 0 _ _ b__law_sums from ss_cons (x_if (t_cmp ok_eq (e_loc (hd := by decide +kernel) (hn := by decide +kernel)) (e_int)) (ss_cons (x_ret (e_loc (hd := by decide +kernel) (hn := by decide +kernel))) (ss_nil)) (ss_nil)) (ss_cons (x_unp (hs := by intro _; rfl) (hw := by intro _; rfl) (ns := [("a", _), ("b", _), ("c", _), ("d", _)]) (e_loc (hd := by decide +kernel) (hn := by decide +kernel)) (by decide +kernel)) (ss_cons (x_ret (e_list (es_cons (he := by intro _; rfl) (e_bin ok_add (e_bin ok_add (e_bin ok_add (e_loc (hd := by decide +kernel) (hn := by decide +kernel)) (e_loc (hd := by decide +kernel) (hn := by decide +kernel))) (e_loc (hd := by decide +kernel) (hn := by decide +kernel))) (e_loc (hd := by decide +kernel) (hn := by decide +kernel))) (es_cons (he := by intro _; rfl) (e_bin ok_sub (e_bin ok_add (e_bin ok_sub (e_loc (hd := by decide +kernel) (hn := by decide +kernel)) (e_loc (hd := by decide +kernel) (hn := by decide +kernel))) (e_loc (hd := by decide +kernel) (hn := by decide +kernel))) (e_loc (hd := by decide +kernel) (hn := by decide +kernel))) (es_cons (he := by intro _; rfl) (e_bin ok_sub (e_bin ok_sub (e_bin ok_add (e_loc (hd := by decide +kernel) (hn := by decide +kernel)) (e_loc (hd := by decide +kernel) (hn := by decide +kernel))) (e_loc (hd := by decide +kernel) (hn := by decide +kernel))) (e_loc (hd := by decide +kernel) (hn := by decide +kernel))) (es_cons (he := by intro _; rfl) (e_bin ok_add (e_bin ok_sub (e_bin ok_sub (e_loc (hd := by decide +kernel) (hn := by decide +kernel)) (e_loc (hd := by decide +kernel) (hn := by decide +kernel))) (e_loc (hd := by decide +kernel) (hn := by decide +kernel))) (e_loc (hd := by decide +kernel) (hn := by decide +kernel))) (es_nil))))))) (ss_nil))))
theorem s__law_is_block {c : Cx} (H : Facts c) : FSound c 2 826 d__law_is_block := fn_plain H.f_826 rfl rfl rfl rfl (show SSound c 1 _ _ b__law_is_block from ss_cons (x_if (t_or (t_cmp ok_ne (e_callB (hp := by intro _; rfl) (hd := by decide +kernel) H.b_len (.inl ⟨_, rfl⟩) ok_len (es_cons (he := by intro _; rfl) (e_loc (hd := by decide +kernel) (hn := by decide +kernel)) (es_nil)) rfl (noStar1 (he := by intro _; exact ⟨_, _, rfl⟩))) (e_bin ok_mul (e_loc (hd := by decide +kernel) (hn := by decide +kernel)) (e_loc (hd := by decide +kernel) (hn := by decide +kernel)))) (t_cmp ok_ne (e_item (hs := by intro _ _; rfl) (e_loc (hd := by decide +kernel) (hn := by decide +kernel)) (e_int)) (e_callF (hd := by decide +kernel) (globFn H.g__law_rounded H.f_804) (s__law_rounded H) (by decide) (es_cons (he := by intro _; rfl) (e_callB (hp := by intro _; rfl) (hd := by decide +kernel) H.b_sum (.inl ⟨_, rfl⟩) ok_sum (es_cons (he := by intro _; rfl) (e_loc (hd := by decide +kernel) (hn := by decide +kernel)) (es_nil)) rfl (noStar1 (he := by intro _; exact ⟨_, _, rfl⟩))) (es_cons (he := by intro _; rfl) (e_bin ok_mul (e_loc (hd := by decide +kernel) (hn := by decide +kernel)) (e_item (hs := by intro _ _; rfl) (e_loc (hd := by decide +kernel) (hn := by decide +kernel)) (e_int))) (es_nil))) rfl (noStar1 (he := by intro _; exact ⟨_, _, rfl⟩))))) (ss_cons (x_ret (e_bool)) (ss_nil)) (ss_nil)) (ss_cons (x_if (t_cmp ok_lt (e_loc (hd := by decide +kernel) (hn := by decide +kernel)) (e_int)) (ss_cons (x_ret (e_cmp ok_eq (e_loc (hd := by decide +kernel) (hn := by decide +kernel)) (e_compZ (hp := by intro _; rfl) (hs := by intro _ _; rfl) H.b_zip (es_cons (he := by intro _; rfl) (e_callF (hd := by decide +kernel) (globFn H.g__law_sums H.f_821) (s__law_sums H) (by decide) (es_cons (he := by intro _; rfl) (e_loc (hd := by decide +kernel) (hn := by decide +kernel)) (es_cons (he := by intro _; rfl) (e_loc (hd := by decide +kernel) (hn := by decide +kernel)) (es_nil))) rfl (noStar1 (he := by intro _; exact ⟨_, _, rfl⟩))) (es_cons (he := by intro _; rfl) (e_loc (hd := by decide +kernel) (hn := by decide +kernel)) (es_nil))) (e_callF (hd := by decide +kernel) (globFn H.g__law_rounded H.f_804) (s__law_rounded H) (by decide) (es_cons (he := by intro _; rfl) (e_loc (hd := by decide +kernel) (hn := by decide +kernel)) (es_cons (he := by intro _; rfl) (e_bin ok_mul (e_loc (hd := by decide +kernel) (hn := by decide +kernel)) (e_loc (hd := by decide +kernel) (hn := by decide +kernel))) (es_nil))) rfl (noStar1 (he := by intro _; exact ⟨_, _, rfl⟩))) rfl rfl rfl rfl (by decide +kernel) rfl (noStar1 (he := by intro _; exact ⟨_, _, rfl⟩))))) (ss_nil)) (ss_nil)) (ss_cons (x_ret (e_or (e_cmp ok_lt (e_callB (hp := by intro _; rfl) (hd := by decide +kernel) H.b_min (.inl ⟨_, rfl⟩) ok_minL (es_cons (he := by intro _; rfl) (e_loc (hd := by decide +kernel) (hn := by decide +kernel)) (es_nil)) rfl (noStar1 (he := by intro _; exact ⟨_, _, rfl⟩))) (e_callB (hp := by intro _; rfl) (hd := by decide +kernel) H.b_max (.inl ⟨_, rfl⟩) ok_maxL (es_cons (he := by intro _; rfl) (e_loc (hd := by decide +kernel) (hn := by decide +kernel)) (es_nil)) rfl (noStar1 (he := by intro _; exact ⟨_, _, rfl⟩)))) (e_cmp ok_eq (e_slice (hs := by intro _ _; exact ⟨_, rfl⟩) (e_loc (hd := by decide +kernel) (hn := by decide +kernel)) (p_some (e_int)) p_none p_none) (e_bin ok_times (e_list (es_cons (he := by intro _; rfl) (e_int) (es_nil))) (e_bin ok_sub (e_bin ok_mul (e_loc (hd := by decide +kernel) (hn := by decide +kernel)) (e_loc (hd := by decide +kernel) (hn := by decide +kernel))) (e_int)))))) (ss_nil))))
theorem s__law_component_right {c : Cx} (H : Facts c) : FSound c 7 831 d__law_component_right := fn_plain H.f_831 rfl rfl rfl rfl (show SSound c 6 _ _ b__law_component_right from ss_cons (x_unp (hs := by intro _; rfl) (hw := by intro _; rfl) (ns := [("wide", _), ("high", _)]) (e_meth (he := by intro env; exact ⟨_, rfl⟩) (e_loc (hd := by decide +kernel) (hn := by decide +kernel)) (es_cons (he := by intro _; rfl) (e_int) (es_nil)) (meth1 H.m_669_plane_size ((s_Frame_plane_size H).less (by decide : _ ≤ 2)) H.f_652) (by decide : 2 ≤ _) (noStar1 (he := by intro _; exact ⟨_, _, rfl⟩))) (by decide +kernel)) (ss_cons (x_unpR (hs := by intro _; rfl) (ns := [("rows", _), ("middle", _)]) (e_tup (es_cons (he := by intro _; rfl) (e_callF (hd := by decide +kernel) (globFn H.g__law_rows H.f_809) (s__law_rows H) (by decide) (es_cons (he := by intro _; rfl) (e_loc (hd := by decide +kernel) (hn := by decide +kernel)) (es_cons (he := by intro _; rfl) (e_loc (hd := by decide +kernel) (hn := by decide +kernel)) (es_cons (he := by intro _; rfl) (e_loc (hd := by decide +kernel) (hn := by decide +kernel)) (es_cons (he := by intro _; rfl) (e_bin ok_sub (e_bin ok_pow (e_int) (e_loc (hd := by decide +kernel) (hn := by decide +kernel))) (e_int)) (es_nil))))) rfl (noStar1 (he := by intro _; exact ⟨_, _, rfl⟩))) (es_cons (he := by intro _; rfl) (e_bin ok_pow (e_int) (e_bin ok_sub (e_loc (hd := by decide +kernel) (hn := by decide +kernel)) (e_int))) (es_nil)))) (by decide +kernel) (fun env h hb => swap2 (h _ (by simp)) (h _ (by simp)) hb rfl (by decide +kernel) rfl rfl rfl)) (ss_cons (x_unpR (hs := by intro _; rfl) (ns := [("plane", _), ("grid", _)]) (e_tup (es_cons (he := by intro _; rfl) (e_new (hp := by intro _; rfl) (hd := by decide +kernel) H.g_Plane (by decide) H.i_Plane (s_Plane_init H) (by decide) (es_cons (he := by intro _; rfl) (e_loc (hd := by decide +kernel) (hn := by decide +kernel)) (es_cons (he := by intro _; rfl) (e_loc (hd := by decide +kernel) (hn := by decide +kernel)) (es_cons (he := by intro _; rfl) (e_comp (hs := by intro _ _; rfl) (e_loc (hd := by decide +kernel) (hn := by decide +kernel)) (e_callB (hp := by intro _; rfl) (hd := by decide +kernel) H.b_list (.inr ⟨_, rfl⟩) ok_list (es_cons (he := by intro _; rfl) (e_loc (hd := by decide +kernel) (hn := by decide +kernel)) (es_nil)) rfl (noStar1 (he := by intro _; exact ⟨_, _, rfl⟩))) rfl rfl rfl) (es_nil)))) rfl (noStar1 (he := by intro _; exact ⟨_, _, rfl⟩))) (es_cons (he := by intro _; rfl) (e_new (hp := by intro _; rfl) (hd := by decide +kernel) H.g_Grid (by decide) H.i_Grid (s_Grid_init H) (by decide) (es_cons (he := by intro _; rfl) (e_loc (hd := by decide +kernel) (hn := by decide +kernel)) (es_nil)) rfl (noStar1 (he := by intro _; exact ⟨_, _, rfl⟩))) (es_nil)))) (by decide +kernel) (fun env h hb => swap2 (h _ (by simp)) (h _ (by simp)) hb rfl (by decide +kernel) rfl rfl rfl)) (ss_cons (x_expr (hs := by intro _; rfl) (e_callF (hd := by decide +kernel) (globFn H.g_put_component H.f_579) (s_put_component H) (by decide) (es_cons (he := by intro _; rfl) (e_loc (hd := by decide +kernel) (hn := by decide +kernel)) (es_cons (he := by intro _; rfl) (e_loc (hd := by decide +kernel) (hn := by decide +kernel)) (es_cons (he := by intro _; rfl) (e_int) (es_cons (he := by intro _; rfl) (e_loc (hd := by decide +kernel) (hn := by decide +kernel)) (es_cons (he := by intro _; rfl) (e_loc (hd := by decide +kernel) (hn := by decide +kernel)) (es_nil)))))) rfl (noStar1 (he := by intro _; exact ⟨_, _, rfl⟩)))) (ss_cons (x_if (t_cmp ok_ne (e_attr (he := by intro _; rfl) (e_loc (hd := by decide +kernel) (hn := by decide +kernel)) H.a_rows) (e_loc (hd := by decide +kernel) (hn := by decide +kernel))) (ss_cons (x_ret (e_bool)) (ss_nil)) (ss_nil)) (ss_cons (x_unp (hs := by intro _; rfl) (hw := by intro _; rfl) (ns := [("across", _), ("down", _)]) (e_meth (he := by intro env; exact ⟨_, rfl⟩) (e_loc (hd := by decide +kernel) (hn := by decide +kernel)) (es_cons (he := by intro _; rfl) (e_int) (es_nil)) (meth1 H.m_669_padded ((s_Frame_padded H).less (by decide : _ ≤ 3)) H.f_666) (by decide : 3 ≤ _) (noStar1 (he := by intro _; exact ⟨_, _, rfl⟩))) (by decide +kernel)) (ss_cons (x_for (hs := by intro _ _; rfl) (e_callB (hp := by intro _; rfl) (hd := by decide +kernel) H.b_range (.inr ⟨_, rfl⟩) ok_range (es_cons (he := by intro _; rfl) (e_loc (hd := by decide +kernel) (hn := by decide +kernel)) (es_nil)) rfl (noStar1 (he := by intro _; exact ⟨_, _, rfl⟩))) (ss_cons (x_for (hs := by intro _ _; rfl) (e_callB (hp := by intro _; rfl) (hd := by decide +kernel) H.b_range (.inr ⟨_, rfl⟩) ok_range (es_cons (he := by intro _; rfl) (e_loc (hd := by decide +kernel) (hn := by decide +kernel)) (es_nil)) rfl (noStar1 (he := by intro _; exact ⟨_, _, rfl⟩))) (ss_cons (x_asg (hs := by intro _; rfl) (e_callF (hd := by decide +kernel) (globFn H.g__law_block H.f_814) (s__law_block H) (by decide) (es_cons (he := by intro _; rfl) (e_loc (hd := by decide +kernel) (hn := by decide +kernel)) (es_cons (he := by intro _; rfl) (e_loc (hd := by decide +kernel) (hn := by decide +kernel)) (es_cons (he := by intro _; rfl) (e_loc (hd := by decide +kernel) (hn := by decide +kernel)) (es_cons (he := by intro _; rfl) (e_loc (hd := by decide +kernel) (hn := by decide +kernel)) (es_cons (he := by intro _; rfl) (e_loc (hd := by decide +kernel) (hn := by decide +kernel)) (es_nil)))))) rfl (noStar1 (he := by intro _; exact ⟨_, _, rfl⟩))) (by decide +kernel)) (ss_cons (x_asg (hs := by intro _; rfl) (e_item (hs := by intro _ _; rfl) (e_item (hs := by intro _ _; rfl) (e_item (hs := by intro _ _; rfl) (e_attr (he := by intro _; rfl) (e_loc (hd := by decide +kernel) (hn := by decide +kernel)) H.a_planes) (e_int)) (e_loc (hd := by decide +kernel) (hn := by decide +kernel))) (e_loc (hd := by decide +kernel) (hn := by decide +kernel))) (by decide +kernel)) (ss_cons (x_if (t_or (t_cmp ok_ge (e_bin ok_mul (e_loc (hd := by decide +kernel) (hn := by decide +kernel)) (e_loc (hd := by decide +kernel) (hn := by decide +kernel))) (e_loc (hd := by decide +kernel) (hn := by decide +kernel))) (t_cmp ok_ge (e_bin ok_mul (e_loc (hd := by decide +kernel) (hn := by decide +kernel)) (e_loc (hd := by decide +kernel) (hn := by decide +kernel))) (e_loc (hd := by decide +kernel) (hn := by decide +kernel)))) (ss_cons (x_if (t_cmp ok_isnot (e_loc (hd := by decide +kernel) (hn := by decide +kernel)) (e_none)) (ss_cons (x_ret (e_bool)) (ss_nil)) (ss_nil)) (ss_nil)) (ss_cons (x_if (t_or (t_not (t_val (he := by intro _ _; rfl) (e_callF (hd := by decide +kernel) (globFn H.g__law_is_block H.f_826) (s__law_is_block H) (by decide) (es_cons (he := by intro _; rfl) (e_loc (hd := by decide +kernel) (hn := by decide +kernel)) (es_cons (he := by intro _; rfl) (e_loc (hd := by decide +kernel) (hn := by decide +kernel)) (es_cons (he := by intro _; rfl) (e_loc (hd := by decide +kernel) (hn := by decide +kernel)) (es_cons (he := by intro _; rfl) (e_loc (hd := by decide +kernel) (hn := by decide +kernel)) (es_nil))))) rfl (noStar1 (he := by intro _; exact ⟨_, _, rfl⟩))))) (t_cmp ok_ne (e_loc (hd := by decide +kernel) (hn := by decide +kernel)) (e_callF (hd := by decide +kernel) (globFn H.g_coded_block H.f_572) (s_coded_block H) (by decide) (es_cons (he := by intro _; rfl) (e_loc (hd := by decide +kernel) (hn := by decide +kernel)) (es_cons (he := by intro _; rfl) (e_loc (hd := by decide +kernel) (hn := by decide +kernel)) (es_cons (he := by intro _; rfl) (e_loc (hd := by decide +kernel) (hn := by decide +kernel)) (es_cons (he := by intro _; rfl) (e_loc (hd := by decide +kernel) (hn := by decide +kernel)) (es_cons (he := by intro _; rfl) (e_loc (hd := by decide +kernel) (hn := by decide +kernel)) (es_cons (he := by intro _; rfl) (e_loc (hd := by decide +kernel) (hn := by decide +kernel)) (es_nil))))))) rfl (noStar1 (he := by intro _; exact ⟨_, _, rfl⟩))))) (ss_cons (x_ret (e_bool)) (ss_nil)) (ss_nil)) (ss_nil))) (ss_nil)))) (by decide +kernel)) (ss_nil)) (by decide +kernel)) (ss_cons (x_ret (e_cmp ok_eq (e_comp2 (hs := by intro _ _; rfl) (hd := by decide +kernel) (hd' := by decide +kernel) (e_item (hs := by intro _ _; rfl) (e_attr (he := by intro _; rfl) (e_loc (hd := by decide +kernel) (hn := by decide +kernel)) H.a_planes) (e_int)) rfl rfl rfl rfl) (e_list (es_nil)))) (ss_nil)))))))))
theorem s_law {c : Cx} (H : Facts c) : FSound c 8 838 d_law := fn_plain H.f_838 rfl rfl rfl rfl (show SSound c 7 _ _ b_law from ss_cons (x_for (hs := by intro _ _; rfl) (e_callB (hp := by intro _; rfl) (hd := by decide +kernel) H.b_range (.inr ⟨_, rfl⟩) ok_range (es_cons (he := by intro _; rfl) (e_callB (hp := by intro _; rfl) (hd := by decide +kernel) H.b_max (.inl ⟨_, rfl⟩) ok_max2 (es_cons (he := by intro _; rfl) (e_int) (es_cons (he := by intro _; rfl) (e_callB (hp := by intro _; rfl) (hd := by decide +kernel) H.b_min (.inl ⟨_, rfl⟩) ok_min2 (es_cons (he := by intro _; rfl) (e_int) (es_cons (he := by intro _; rfl) (e_callB (hp := by intro _; rfl) (hd := by decide +kernel) H.b_len (.inl ⟨_, rfl⟩) ok_len (es_cons (he := by intro _; rfl) (e_loc (hd := by decide +kernel) (hn := by decide +kernel)) (es_nil)) rfl (noStar1 (he := by intro _; exact ⟨_, _, rfl⟩))) (es_nil))) rfl (noStar1 (he := by intro _; exact ⟨_, _, rfl⟩))) (es_nil))) rfl (noStar1 (he := by intro _; exact ⟨_, _, rfl⟩))) (es_nil)) rfl (noStar1 (he := by intro _; exact ⟨_, _, rfl⟩))) (ss_cons (x_asg (hs := by intro _; rfl) (e_callF (hd := by decide +kernel) (globFn H.g__law_urn H.f_778) (s__law_urn H) (by decide) (es_cons (he := by intro _; rfl) (e_loc (hd := by decide +kernel) (hn := by decide +kernel)) (es_cons (he := by intro _; rfl) (e_loc (hd := by decide +kernel) (hn := by decide +kernel)) (es_nil))) rfl (noStar1 (he := by intro _; exact ⟨_, _, rfl⟩))) (by decide +kernel)) (ss_cons (x_unpR (hs := by intro _; rfl) (ns := [("n", _), ("bits", _), ("quality", _)]) (e_tup (es_cons (he := by intro _; rfl) (e_item (hs := by intro _ _; rfl) (e_list (es_cons (he := by intro _; rfl) (e_int) (es_cons (he := by intro _; rfl) (e_int) (es_cons (he := by intro _; rfl) (e_int) (es_cons (he := by intro _; rfl) (e_int) (es_cons (he := by intro _; rfl) (e_int) (es_nil))))))) (e_callF (hd := by decide +kernel) (globFn H.g__law_from H.f_785) (s__law_from H) (by decide) (es_cons (he := by intro _; rfl) (e_loc (hd := by decide +kernel) (hn := by decide +kernel)) (es_cons (he := by intro _; rfl) (e_int) (es_nil))) rfl (noStar1 (he := by intro _; exact ⟨_, _, rfl⟩)))) (es_cons (he := by intro _; rfl) (e_item (hs := by intro _ _; rfl) (e_list (es_cons (he := by intro _; rfl) (e_int) (es_cons (he := by intro _; rfl) (e_int) (es_nil)))) (e_callF (hd := by decide +kernel) (globFn H.g__law_from H.f_785) (s__law_from H) (by decide) (es_cons (he := by intro _; rfl) (e_loc (hd := by decide +kernel) (hn := by decide +kernel)) (es_cons (he := by intro _; rfl) (e_int) (es_nil))) rfl (noStar1 (he := by intro _; exact ⟨_, _, rfl⟩)))) (es_cons (he := by intro _; rfl) (e_bin ok_add (e_int) (e_callF (hd := by decide +kernel) (globFn H.g__law_from H.f_785) (s__law_from H) (by decide) (es_cons (he := by intro _; rfl) (e_loc (hd := by decide +kernel) (hn := by decide +kernel)) (es_cons (he := by intro _; rfl) (e_int) (es_nil))) rfl (noStar1 (he := by intro _; exact ⟨_, _, rfl⟩)))) (es_nil))))) (by decide +kernel) (fun env h hb => swap3 (h _ (by simp)) (h _ (by simp)) (h _ (by simp)) hb rfl rfl (by decide +kernel) (by decide +kernel) (by decide +kernel) rfl rfl rfl)) (ss_cons (x_own (es_cons (he := by intro _; rfl) (e_new (hp := by intro _; rfl) (hd := by decide +kernel) H.g_Component (by decide) H.i_Component (s_Component_init H) (by decide) (es_cons (he := by intro _; rfl) (e_int) (es_cons (he := by intro _; rfl) (e_bin ok_add (e_int) (e_callF (hd := by decide +kernel) (globFn H.g__law_from H.f_785) (s__law_from H) (by decide) (es_cons (he := by intro _; rfl) (e_loc (hd := by decide +kernel) (hn := by decide +kernel)) (es_cons (he := by intro _; rfl) (e_int) (es_nil))) rfl (noStar1 (he := by intro _; exact ⟨_, _, rfl⟩)))) (es_cons (he := by intro _; rfl) (e_bin ok_add (e_int) (e_callF (hd := by decide +kernel) (globFn H.g__law_from H.f_785) (s__law_from H) (by decide) (es_cons (he := by intro _; rfl) (e_loc (hd := by decide +kernel) (hn := by decide +kernel)) (es_cons (he := by intro _; rfl) (e_int) (es_nil))) rfl (noStar1 (he := by intro _; exact ⟨_, _, rfl⟩)))) (es_cons (he := by intro _; rfl) (e_int) (es_nil))))) rfl (noStar1 (he := by intro _; exact ⟨_, _, rfl⟩))) (es_nil)) (by decide +kernel)) (ss_cons (x_push (he := by intro env; exact ⟨_, rfl⟩) (hp := by intro _; rfl) (hd := by decide +kernel) (hn := by decide +kernel) (es_cons (he := by intro _; rfl) (e_new (hp := by intro _; rfl) (hd := by decide +kernel) H.g_Component (by decide) H.i_Component (s_Component_init H) (by decide) (es_cons (he := by intro _; rfl) (e_int) (es_cons (he := by intro _; rfl) (e_bin ok_add (e_int) (e_callF (hd := by decide +kernel) (globFn H.g__law_from H.f_785) (s__law_from H) (by decide) (es_cons (he := by intro _; rfl) (e_loc (hd := by decide +kernel) (hn := by decide +kernel)) (es_cons (he := by intro _; rfl) (e_int) (es_nil))) rfl (noStar1 (he := by intro _; exact ⟨_, _, rfl⟩)))) (es_cons (he := by intro _; rfl) (e_bin ok_add (e_int) (e_callF (hd := by decide +kernel) (globFn H.g__law_from H.f_785) (s__law_from H) (by decide) (es_cons (he := by intro _; rfl) (e_loc (hd := by decide +kernel) (hn := by decide +kernel)) (es_cons (he := by intro _; rfl) (e_int) (es_nil))) rfl (noStar1 (he := by intro _; exact ⟨_, _, rfl⟩)))) (es_cons (he := by intro _; rfl) (e_int) (es_nil))))) rfl (noStar1 (he := by intro _; exact ⟨_, _, rfl⟩))) es_nil) (hns := (noStar1 (he := by intro _; exact ⟨_, _, rfl⟩)))) (ss_cons (x_asg (hs := by intro _; rfl) (e_if (t_cmp ok_eq (e_loc (hd := by decide +kernel) (hn := by decide +kernel)) (e_int)) (e_str) (e_str)) (by decide +kernel)) (ss_freeze (x := "pair") (ss_cons (x_asg (hs := by intro _; rfl) (e_new (hp := by intro _; rfl) (hd := by decide +kernel) H.g_Frame (by decide) H.i_Frame (s_Frame_init H) (by decide) (es_cons (he := by intro _; rfl) (e_loc (hd := by decide +kernel) (hn := by decide +kernel)) (es_cons (he := by intro _; rfl) (e_loc (hd := by decide +kernel) (hn := by decide +kernel)) (es_cons (he := by intro _; rfl) (e_bin ok_add (e_int) (e_callF (hd := by decide +kernel) (globFn H.g__law_from H.f_785) (s__law_from H) (by decide) (es_cons (he := by intro _; rfl) (e_loc (hd := by decide +kernel) (hn := by decide +kernel)) (es_cons (he := by intro _; rfl) (e_int) (es_nil))) rfl (noStar1 (he := by intro _; exact ⟨_, _, rfl⟩)))) (es_cons (he := by intro _; rfl) (e_bin ok_add (e_int) (e_callF (hd := by decide +kernel) (globFn H.g__law_from H.f_785) (s__law_from H) (by decide) (es_cons (he := by intro _; rfl) (e_loc (hd := by decide +kernel) (hn := by decide +kernel)) (es_cons (he := by intro _; rfl) (e_int) (es_nil))) rfl (noStar1 (he := by intro _; exact ⟨_, _, rfl⟩)))) (es_cons (he := by intro _; rfl) (e_loc (hd := by decide +kernel) (hn := by decide +kernel)) (es_cons (he := by intro _; rfl) (e_loc (hd := by decide +kernel) (hn := by decide +kernel)) (es_nil))))))) rfl (noStar1 (he := by intro _; exact ⟨_, _, rfl⟩))) (by decide +kernel)) (ss_cons (x_asg (hs := by intro _; rfl) (e_callF (hd := by decide +kernel) (globFn H.g_made_tables H.f_565) (s_made_tables H) (by decide) (es_cons (he := by intro _; rfl) (e_loc (hd := by decide +kernel) (hn := by decide +kernel)) (es_cons (he := by intro _; rfl) (e_new (hp := by intro _; rfl) (hd := by decide +kernel) H.g_Settings (by decide) H.i_Settings (s_Settings_init H) (by decide) (es_cons (he := by intro _; rfl) (e_loc (hd := by decide +kernel) (hn := by decide +kernel)) (es_cons (he := by intro _; rfl) (e_loc (hd := by decide +kernel) (hn := by decide +kernel)) (es_nil))) rfl (noStar1 (he := by intro _; exact ⟨_, _, rfl⟩))) (es_nil))) rfl (noStar1 (he := by intro _; exact ⟨_, _, rfl⟩))) (by decide +kernel)) (ss_cons (x_asg (hs := by intro _; rfl) (e_if (t_cmp ok_eq (e_loc (hd := by decide +kernel) (hn := by decide +kernel)) (e_int)) (e_int) (e_int)) (by decide +kernel)) (ss_cons (x_asg (hs := by intro _; rfl) (e_dict2 (e_callF (hd := by decide +kernel) (globFn H.g__law_divisors H.f_797) (s__law_divisors H) (by decide) (es_cons (he := by intro _; rfl) (e_callF (hd := by decide +kernel) (globFn H.g_luma H.f_344) (s_luma H) (by decide) (es_cons (he := by intro _; rfl) (e_loc (hd := by decide +kernel) (hn := by decide +kernel)) (es_nil)) rfl (noStar1 (he := by intro _; exact ⟨_, _, rfl⟩))) (es_cons (he := by intro _; rfl) (e_loc (hd := by decide +kernel) (hn := by decide +kernel)) (es_cons (he := by intro _; rfl) (e_loc (hd := by decide +kernel) (hn := by decide +kernel)) (es_nil)))) rfl (noStar1 (he := by intro _; exact ⟨_, _, rfl⟩))) (e_callF (hd := by decide +kernel) (globFn H.g__law_divisors H.f_797) (s__law_divisors H) (by decide) (es_cons (he := by intro _; rfl) (e_callF (hd := by decide +kernel) (globFn H.g_chroma H.f_351) (s_chroma H) (by decide) (es_cons (he := by intro _; rfl) (e_loc (hd := by decide +kernel) (hn := by decide +kernel)) (es_nil)) rfl (noStar1 (he := by intro _; exact ⟨_, _, rfl⟩))) (es_cons (he := by intro _; rfl) (e_loc (hd := by decide +kernel) (hn := by decide +kernel)) (es_cons (he := by intro _; rfl) (e_loc (hd := by decide +kernel) (hn := by decide +kernel)) (es_nil)))) rfl (noStar1 (he := by intro _; exact ⟨_, _, rfl⟩)))) (by decide +kernel)) (ss_cons (x_if (t_or (t_neDict (e_attr (he := by intro _; rfl) (e_loc (hd := by decide +kernel) (hn := by decide +kernel)) H.a_quant) (e_loc (hd := by decide +kernel) (hn := by decide +kernel))) (t_not (t_val (he := by intro _ _; rfl) (e_callF (hd := by decide +kernel) (globFn H.g__law_component_right H.f_831) (s__law_component_right H) (by decide) (es_cons (he := by intro _; rfl) (e_loc (hd := by decide +kernel) (hn := by decide +kernel)) (es_cons (he := by intro _; rfl) (e_loc (hd := by decide +kernel) (hn := by decide +kernel)) (es_cons (he := by intro _; rfl) (e_item (hs := by intro _ _; rfl) (e_loc (hd := by decide +kernel) (hn := by decide +kernel)) (e_int)) (es_cons (he := by intro _; rfl) (e_loc (hd := by decide +kernel) (hn := by decide +kernel)) (es_cons (he := by intro _; rfl) (e_loc (hd := by decide +kernel) (hn := by decide +kernel)) (es_nil)))))) rfl (noStar1 (he := by intro _; exact ⟨_, _, rfl⟩)))))) (ss_cons (x_ret (e_bool)) (ss_nil)) (ss_nil)) (ss_nil)))))))))))) (by decide +kernel)) (ss_cons (x_ret (e_bool)) (ss_nil)))
end Mine
namespace Mine
/-! the same asked of a look-up: what a run's tree answers at once -/
structure Behind (c : Cx) : Prop where
  is : ∃ hT, obs hT = obsGood ∧ c.K = Kof hT ∧ ∀ b o, hT.get? b = some o → c.h₀.get? b = some o
theorem kof_in {h : Heap} (a : qAddrs.all (fun a => (h.get? a).isSome) = true) : (Kof h).In h := by
  intro x o e
  unfold Kof at e
  have : ∀ (l : List Addr), (∀ y ∈ l, (h.get? y).isSome = true) → (l.map fun a => (a, (h.get? a).getD { cls := .none, data := .freed })).lookup x = some o → h.get? x = some o := by
    intro l
    induction l with
    | nil => intro _ e; cases e
    | cons y r ih =>
      intro hy e
      rw [List.map_cons, List.lookup_cons] at e
      split at e
      · rename_i z
        have : x = y := eq_of_beq z
        subst this
        cases e
        obtain ⟨p, hp⟩ := Option.isSome_iff_exists.mp (hy x List.mem_cons_self)
        rw [hp]; rfl
      · exact ih (fun z hz => hy z (List.mem_cons_of_mem _ hz)) e
  exact this qAddrs (List.all_eq_true.mp a) e
structure Parts (h : Heap) : Prop where
  ns : h.isNs mainGlobals = true
  nb : h.isNs builtinsNs = true
  sys : (h.get? sysModules).isSome = true
  all : qAddrs.all (fun a => (h.get? a).isSome) = true
  refs : qRefs.all (fun p => h.nsMap mainGlobals (Str.ofString p.1) == some (.ref p.2)) = true
  blts : qBlts.all (fun p => (h.nsMap mainGlobals (Str.ofString p.1)).isNone && h.nsMap builtinsNs (Str.ofString p.1) == some p.2) = true
  nums : qInts.all (fun p => intIs (h.nsMap mainGlobals (Str.ofString p.1)) p.2) = true
  t1 : tupIs h (h.nsMap mainGlobals "ORDER_8") (intsAre · ORDER8) = true
  t2 : tupIs h (h.nsMap mainGlobals "LUMA") (intsAre · LUMAs) = true
  t3 : tupIs h (h.nsMap mainGlobals "CHROMA_LOW") (intsAre · CHROMAs) = true
  t4 : tupIs h (h.nsMap mainGlobals "KINDS") (strsAre · KINDs) = true
  attrs : classList.all (fun C => qAttrs.all fun x => attrOk (Kof h) C x) = true
  stores : classList.all (fun C => qStores.all fun x => storeOk1 (Kof h) C x) = true
  meths : qMeths.all (fun p => methOk (Kof h) p.1 p.2.1 p.2.2) = true
  inits : qInits.all (fun p => initOk (Kof h) p.1 p.2) = true
  inits0 : qInits0.all (fun C => init0Ok (Kof h) C) = true
theorem Parts.of {h : Heap} (x : factsOk h = true) : Parts h := by
  unfold factsOk at x
  simp only [Bool.and_eq_true] at x
  obtain ⟨⟨⟨⟨⟨⟨⟨⟨⟨⟨⟨⟨a, b⟩, c⟩, d⟩, e⟩, f⟩, g⟩, ⟨⟨⟨t1, t2⟩, t3⟩, t4⟩⟩, i⟩, j⟩, k⟩, l⟩, m⟩ := x
  exact ⟨a, b, c, d, e, f, g, t1, t2, t3, t4, i, j, k, l, m⟩
theorem Behind.parts {c : Cx} (B : Behind c) : ∃ hT, Parts hT ∧ c.K = Kof hT ∧ (∀ b o, hT.get? b = some o → c.h₀.get? b = some o) ∧ (qFns.map fun p => viewAt hT p.1) = qFns.map fun p => some (viewOf p.2 (p.1 == 764)) := by
  obtain ⟨hT, e, k, up⟩ := B.is
  exact ⟨hT, Parts.of (congrArg Prod.snd e), k, up, congrArg Prod.fst e⟩
section
variable {c : Cx}
theorem of_ref (B : Behind c) (p : String × Addr) (hp : p ∈ qRefs) : GlobRef c p.1 p.2 := by
  obtain ⟨hT, P, _, up, _⟩ := B.parts
  exact ⟨_, (Heap.Ns.of_isNs P.ns).keeps up, eq_of_beq (List.all_eq_true.mp P.refs p hp)⟩
theorem of_blt (B : Behind c) (p : String × Value) (hp : p ∈ qBlts) : GlobBlt c p.1 p.2 := by
  obtain ⟨hT, P, _, up, _⟩ := B.parts
  have := List.all_eq_true.mp P.blts p hp
  rw [Bool.and_eq_true] at this
  exact ⟨_, _, (Heap.Ns.of_isNs P.ns).keeps up, Option.isNone_iff_eq_none.mp this.1, (Heap.Ns.of_isNs P.nb).keeps up, eq_of_beq this.2⟩
theorem of_int (B : Behind c) (p : String × Int) (hp : p ∈ qInts) : GlobIs c p.1 (.int p.2) := by
  obtain ⟨hT, P, _, up, _⟩ := B.parts
  have := List.all_eq_true.mp P.nums p hp
  unfold intIs at this
  split at this
  · rename_i j t e
    have : j = p.2 := eq_of_beq this
    subst this
    exact ⟨_, _, (Heap.Ns.of_isNs P.ns).keeps up, e, fun W _ => .int _ _⟩
  · cases this
theorem ints_rel (W : Wd) : ∀ {l : List Value} {ns : List Int}, intsAre l ns = true → VsRel W (ns.map .int) l
  | [], [], _ => .nil
  | .int j t :: r, i :: s, h => by
    unfold intsAre at h
    rw [Bool.and_eq_true, beq_iff_eq] at h
    obtain ⟨rfl, h⟩ := h
    exact .cons (.int _ _) (ints_rel W h)
theorem strs_rel (W : Wd) : ∀ {l : List Value} {ns : List Str}, strsAre l ns = true → VsRel W (ns.map .str) l
  | [], [], _ => .nil
  | .str j t :: r, i :: s, h => by
    unfold strsAre at h
    rw [Bool.and_eq_true, beq_iff_eq] at h
    obtain ⟨rfl, h⟩ := h
    exact .cons (.str _ _) (strs_rel W h)
theorem of_tup {x : Str} {vs : List V} {ok : List Value → Bool} (rel : ∀ (W : Wd) l, ok l = true → VsRel W vs l) {hT : Heap} (P : Parts hT) (up : ∀ b o, hT.get? b = some o → c.h₀.get? b = some o) (t : tupIs hT (hT.nsMap mainGlobals x) ok = true) : GlobIs c x (.tup vs) := by
  unfold tupIs at t
  split at t
  · rename_i a e
    split at t
    · rename_i tn items n sl ho
      rw [Bool.and_eq_true, Bool.and_eq_true, beq_iff_eq] at t
      obtain ⟨⟨rfl, hsl⟩, hok⟩ := t
      have hsl : sl = #[] := by simpa using hsl
      subst hsl
      exact ⟨_, _, (Heap.Ns.of_isNs P.ns).keeps up, e, fun W base => .tup (base _ _ (up _ _ ho)) rfl (rel W _ hok)⟩
    · cases t
  · cases t
theorem of_tupORDER_8 (B : Behind c) : GlobIs c "ORDER_8" vORDER_8 := by
  obtain ⟨hT, P, _, up, _⟩ := B.parts
  exact of_tup (fun W l h => ints_rel W h) P up P.t1
theorem of_tupLUMA (B : Behind c) : GlobIs c "LUMA" vLUMA := by
  obtain ⟨hT, P, _, up, _⟩ := B.parts
  exact of_tup (fun W l h => ints_rel W h) P up P.t2
theorem of_tupCHROMA_LOW (B : Behind c) : GlobIs c "CHROMA_LOW" vCHROMA_LOW := by
  obtain ⟨hT, P, _, up, _⟩ := B.parts
  exact of_tup (fun W l h => ints_rel W h) P up P.t3
theorem of_tupKINDS (B : Behind c) : GlobIs c "KINDS" vKINDS := by
  obtain ⟨hT, P, _, up, _⟩ := B.parts
  exact of_tup (fun W l h => strs_rel W h) P up P.t4
theorem of_attr (B : Behind c) (x : String) (hx : x ∈ qAttrs) : ∀ C ∈ classList, attrOk c.K C x = true := fun C hC => by
  obtain ⟨hT, P, e, _⟩ := B.parts
  rw [e]; exact List.all_eq_true.mp (List.all_eq_true.mp P.attrs C hC) x hx
theorem of_store (B : Behind c) (x : String) (hx : x ∈ qStores) : ∀ C ∈ classList, storeOk1 c.K C x = true := fun C hC => by
  obtain ⟨hT, P, e, _⟩ := B.parts
  rw [e]; exact List.all_eq_true.mp (List.all_eq_true.mp P.stores C hC) x hx
theorem of_meth (B : Behind c) (p : Addr × String × Addr) (hp : p ∈ qMeths) : methOk c.K p.1 p.2.1 p.2.2 = true := by
  obtain ⟨hT, P, e, _⟩ := B.parts
  rw [e]; exact List.all_eq_true.mp P.meths p hp
theorem of_init (B : Behind c) (p : Addr × Addr) (hp : p ∈ qInits) : initOk c.K p.1 p.2 = true := by
  obtain ⟨hT, P, e, _⟩ := B.parts
  rw [e]; exact List.all_eq_true.mp P.inits p hp
theorem of_init0 (B : Behind c) (C : Addr) (hp : C ∈ qInits0) : init0Ok c.K C = true := by
  obtain ⟨hT, P, e, _⟩ := B.parts
  rw [e]; exact List.all_eq_true.mp P.inits0 C hp
noncomputable def scopeOk (S : Scope) : Bool := !S.isCoroutine && !S.isGenerator && S.kind == .function && S.names.all (fun n => n.2 != .free)
theorem view_facts {hT : Heap} (up : ∀ b o, hT.get? b = some o → c.h₀.get? b = some o) {a : Addr} {F : Fn} {d : Bool} (v : viewAt hT a = some (viewOf F d)) (hs : scopeOk F.2.2 = true) :
    ∃ fd, FnFacts c a fd F.2.1 ∧ fd.params = F.1 ∧ fd.scope = F.2.2 ∧ isNoneV fd.defaults = !d ∧ dfltIs hT fd.defaults = d := by
  unfold viewAt at v
  split at v
  · rename_i o ho
    split at v
    · rename_i fd hd
      unfold viewOf at v
      simp only [Option.some.injEq, View.mk.injEq, Bool.and_eq_true] at v
      obtain ⟨v1, v2, v3, v4, v5, ⟨v6, v7⟩, v8, v9⟩ := v
      unfold scopeOk at hs
      simp only [Bool.and_eq_true, Bool.not_eq_true', beq_iff_eq] at hs
      obtain ⟨⟨⟨s1, s2⟩, s3⟩, s4⟩ := hs
      refine ⟨fd, ⟨⟨o, up _ _ ho, hd⟩, v2, ?_, v4, v5, by simpa using v6, v3 ▸ s1, v3 ▸ s2, v3 ▸ s3, v3 ▸ s4⟩, v1, v3, v8, v9⟩
      unfold codeIs at v7
      split at v7
      · rename_i cc hcc
        split at v7
        · rename_i oo hoo
          split at v7
          · rename_i vs hvs
            split at v7
            · rename_i q' t hq
              have : q' = fd.qualname := eq_of_beq v7
              subst this
              exact ⟨cc, oo, vs, t, hcc, up _ _ hoo, hvs, hq⟩
            · cases v7
          · cases v7
        · cases v7
      · cases v7
    · cases v
  · cases v
theorem view_at {hT : Heap} (e : (qFns.map fun p => viewAt hT p.1) = qFns.map fun p => some (viewOf p.2 (p.1 == 764))) {p : Addr × Fn} {i : Nat} (hi : qFns[i]? = some p) : viewAt hT p.1 = some (viewOf p.2 (p.1 == 764)) := by
  have := congrArg (·[i]?) e
  simp only [List.getElem?_map, hi, Option.map_some] at this
  exact Option.some.inj this
theorem of_fn (B : Behind c) (p : Addr × Fn) (i : Nat) (hi : qFns[i]? = some p) (hs : (scopeOk p.2.2.2 && !(p.1 == 764)) = true) : FnIs c p.1 p.2 := by
  obtain ⟨hT, P, _, up, e⟩ := B.parts
  rw [Bool.and_eq_true, Bool.not_eq_true'] at hs
  obtain ⟨fd, f, e1, e2, e3, _⟩ := view_facts up (view_at e hi) hs.1
  rw [hs.2] at e3
  refine ⟨fd, f, e1, e2, ?_⟩
  cases hh : fd.defaults <;> rw [hh] at e3 <;> first | rfl | cases e3
theorem dflt_cons {W : Wd} {f : Value → Bool} {fs : List (Value → Bool)} {v : V} {vs : List V} (hf : ∀ x, f x = true → VRel W v x) (hr : ∀ l, dfltL fs l = true → VsRel W vs l) : ∀ l, dfltL (f :: fs) l = true → VsRel W (v :: vs) l := by
  intro l h
  cases l with
  | nil => simp [dfltL] at h
  | cons x l =>
    have h : (f x && dfltL fs l) = true := h
    rw [Bool.and_eq_true] at h
    exact .cons (hf x h.1) (hr l h.2)
theorem str_of {W : Wd} {x : Str} (v : Value) (h : isStr x v = true) : VRel W (.str x) v := by
  unfold isStr at h
  split at h
  · rw [← eq_of_beq h]; exact .str _ _
  · cases h
theorem int_of {W : Wd} {x : Int} (v : Value) (h : isInt x v = true) : VRel W (.int x) v := by
  unfold isInt at h
  split at h
  · rw [← eq_of_beq h]; exact .int _ _
  · cases h
theorem fls_of {W : Wd} (v : Value) (h : isFls v = true) : VRel W (.bool false) v := by
  unfold isFls at h
  split at h
  · rw [eq_of_beq h]; exact .bool _
  · cases h
theorem non_of {W : Wd} (v : Value) (h : isNon v = true) : VRel W .none v := by
  unfold isNon at h
  split at h
  · exact .none
  · cases h
theorem dflt_rel (W : Wd) {l : List Value} (h : dfltL dfltFs l = true) : VsRel W dfltV l :=
  dflt_cons str_of (dflt_cons int_of (dflt_cons non_of (dflt_cons int_of (dflt_cons fls_of (dflt_cons non_of (dflt_cons int_of (dflt_cons str_of (fun l h => by
    cases l with
    | nil => exact .nil
    | cons x l => simp [dfltL] at h)))))))) l h
theorem of_def (B : Behind c) (p : Addr × Fn) (i : Nat) (hi : qFns[i]? = some p) (hs : (scopeOk p.2.2.2 && (p.1 == 764)) = true) : FnDef c p.1 p.2 := by
  obtain ⟨hT, P, _, up, e⟩ := B.parts
  rw [Bool.and_eq_true] at hs
  obtain ⟨fd, f, e1, e2, _, e4⟩ := view_facts up (view_at e hi) hs.1
  rw [hs.2] at e4
  unfold dfltIs at e4
  split at e4
  · rename_i T hT'
    split at e4
    · rename_i o ho
      split at e4
      · rename_i items n hd
        refine ⟨fd, T, o, items, n, f, e1, e2, hT', up _ _ ho, hd, fun W => ?_⟩
        exact dflt_rel W e4
      · cases e4
    · cases e4
  · cases e4
end
end Mine
namespace Mine
theorem facts_of {c : Cx} (B : Behind c) : Facts c := ⟨
  of_blt B ("len", .builtin "len") (by decide +kernel),
  of_blt B ("abs", .builtin "abs") (by decide +kernel),
  of_fn B (778, fn1 pw 81) 0 rfl rfl,
  of_store B "kind" (by decide +kernel),
  of_store B "precision" (by decide +kernel),
  of_store B "height" (by decide +kernel),
  of_store B "width" (by decide +kernel),
  of_store B "components" (by decide +kernel),
  of_store B "n" (by decide +kernel),
  of_fn B (621, fn2 pw 71 0) 1 rfl rfl,
  of_store B "quant" (by decide +kernel),
  of_store B "codes" (by decide +kernel),
  of_store B "conditioning" (by decide +kernel),
  of_fn B (365, fn2 pw 27 0) 2 rfl rfl,
  of_blt B ("min", .builtin "min") (by decide +kernel),
  of_blt B ("max", .builtin "max") (by decide +kernel),
  of_blt B ("tuple", .type "tuple") (by decide +kernel),
  of_fn B (38, fn1 pw 5) 3 rfl rfl,
  of_fn B (33, fn1 pw 4) 4 rfl rfl,
  of_ref B ("quality_scale", 33) (by decide +kernel),
  of_ref B ("scaled_by", 38) (by decide +kernel),
  of_fn B (45, fn1 pw 6) 5 rfl rfl,
  of_blt B ("range", .type "range") (by decide +kernel),
  of_fn B (91, fn1 pw 12) 6 rfl rfl,
  of_tupORDER_8 B,
  of_ref B ("zigzag_places", 91) (by decide +kernel),
  of_fn B (316, fn1 pw 14) 7 rfl rfl,
  of_ref B ("order", 316) (by decide +kernel),
  of_fn B (321, fn1 pw 15) 8 rfl rfl,
  of_tupCHROMA_LOW B,
  of_int B ("CHROMA_HIGH", 99) (by decide +kernel),
  of_fn B (330, fn1 pw 21) 9 rfl rfl,
  of_int B ("SIDE_std_quant", 8) (by decide +kernel),
  of_tupLUMA B,
  of_ref B ("chroma_at", 330) (by decide +kernel),
  of_fn B (337, fn1 pw 22) 10 rfl rfl,
  of_ref B ("picked_std_quant", 337) (by decide +kernel),
  of_ref B ("to_row", 321) (by decide +kernel),
  of_fn B (351, fn1 pw 25) 11 rfl rfl,
  of_fn B (344, fn1 pw 24) 12 rfl rfl,
  of_attr B "precision" (by decide +kernel),
  of_ref B ("Tables", 382) (by decide +kernel),
  of_init B (382, 365) (by decide +kernel),
  of_attr B "components" (by decide +kernel),
  of_attr B "quant" (by decide +kernel),
  of_attr B "n" (by decide +kernel),
  of_ref B ("chroma", 351) (by decide +kernel),
  of_ref B ("luma", 344) (by decide +kernel),
  of_attr B "quality" (by decide +kernel),
  of_ref B ("scaled_table", 45) (by decide +kernel),
  of_fn B (565, fn1 pw 65) 13 rfl rfl,
  of_store B "ident" (by decide +kernel),
  of_store B "across" (by decide +kernel),
  of_store B "down" (by decide +kernel),
  of_fn B (600, fn2 pw 70 0) 14 rfl rfl,
  of_tupKINDS B,
  of_store B "quality" (by decide +kernel),
  of_store B "sampling" (by decide +kernel),
  of_store B "interval" (by decide +kernel),
  of_store B "optimise" (by decide +kernel),
  of_store B "scans" (by decide +kernel),
  of_store B "model" (by decide +kernel),
  of_def B (764, fn2 pw 79 0) 15 rfl rfl,
  of_fn B (792, fn1 pw 83) 16 rfl rfl,
  of_ref B ("_law_hundredths", 792) (by decide +kernel),
  of_fn B (797, fn1 pw 84) 17 rfl rfl,
  of_fn B (785, fn1 pw 82) 18 rfl rfl,
  of_fn B (586, fn1 pw 69) 19 rfl rfl,
  of_attr B "across" (by decide +kernel),
  of_fn B (626, fn2 pw 71 1) 20 rfl rfl,
  of_attr B "down" (by decide +kernel),
  of_fn B (631, fn2 pw 71 2) 21 rfl rfl,
  of_attr B "width" (by decide +kernel),
  of_meth B (669, "most_across", 626) (by decide +kernel),
  of_ref B ("parts", 586) (by decide +kernel),
  of_attr B "height" (by decide +kernel),
  of_meth B (669, "most_down", 631) (by decide +kernel),
  of_fn B (652, fn2 pw 71 5) 22 rfl rfl,
  of_meth B (669, "plane_size", 652) (by decide +kernel),
  of_fn B (659, fn2 pw 71 6) 23 rfl rfl,
  of_attr B "planes" (by decide +kernel),
  of_blt B ("list", .type "list") (by decide +kernel),
  of_fn B (699, fn2 pw 73 2) 24 rfl rfl,
  of_fn B (52, fn1 pw 7) 25 rfl rfl,
  of_fn B (414, fn1 pw 37) 26 rfl rfl,
  of_int B ("C_0_541", 4433) (by decide +kernel),
  of_int B ("C_0_765", 6270) (by decide +kernel),
  of_int B ("C_1_847", 15137) (by decide +kernel),
  of_fn B (400, fn1 pw 35) 27 rfl rfl,
  of_int B ("C_1_175", 9633) (by decide +kernel),
  of_int B ("C_0_899", 7373) (by decide +kernel),
  of_int B ("C_2_562", 20995) (by decide +kernel),
  of_int B ("C_1_961", 16069) (by decide +kernel),
  of_int B ("C_0_390", 3196) (by decide +kernel),
  of_int B ("C_0_298", 2446) (by decide +kernel),
  of_int B ("C_2_053", 16819) (by decide +kernel),
  of_int B ("C_3_072", 25172) (by decide +kernel),
  of_int B ("C_1_501", 12299) (by decide +kernel),
  of_fn B (421, fn1 pw 50) 28 rfl rfl,
  of_fn B (393, fn1 pw 34) 29 rfl rfl,
  of_ref B ("even_forward", 400) (by decide +kernel),
  of_ref B ("odd_flow", 421) (by decide +kernel),
  of_ref B ("descaled", 393) (by decide +kernel),
  of_fn B (426, fn1 pw 51) 30 rfl rfl,
  of_int B ("SIDE_dct_islow", 8) (by decide +kernel),
  of_int B ("PASS_BITS", 2) (by decide +kernel),
  of_int B ("CONST_BITS", 13) (by decide +kernel),
  of_ref B ("forward_row", 426) (by decide +kernel),
  of_ref B ("turned", 414) (by decide +kernel),
  of_fn B (445, fn2 pw 53 0) 31 rfl rfl,
  of_int B ("SIDE_dct_small", 4) (by decide +kernel),
  of_fn B (473, fn2 pw 56 0) 32 rfl rfl,
  of_fn B (509, fn2 pw 57 2) 33 rfl rfl,
  of_meth B (512, "sums", 509) (by decide +kernel),
  of_fn B (497, fn2 pw 57 0) 34 rfl rfl,
  of_fn B (530, fn2 pw 58 0) 35 rfl rfl,
  of_ref B ("IslowDct", 455) (by decide +kernel),
  of_init0 B 455 (by decide +kernel),
  of_ref B ("FourDct", 481) (by decide +kernel),
  of_init0 B 481 (by decide +kernel),
  of_ref B ("TwoDct", 512) (by decide +kernel),
  of_init0 B 512 (by decide +kernel),
  of_ref B ("OneDct", 540) (by decide +kernel),
  of_init0 B 540 (by decide +kernel),
  of_fn B (551, fn1 pw 61) 36 rfl rfl,
  of_ref B ("picked_transform", 551) (by decide +kernel),
  of_meth B (540, "forward", 530) (by decide +kernel),
  of_meth B (512, "forward", 497) (by decide +kernel),
  of_meth B (481, "forward", 473) (by decide +kernel),
  of_meth B (455, "forward", 445) (by decide +kernel),
  of_fn B (558, fn1 pw 63) 37 rfl rfl,
  of_fn B (748, fn1 pw 76) 38 rfl rfl,
  of_attr B "rows" (by decide +kernel),
  of_ref B ("kept_in", 748) (by decide +kernel),
  of_fn B (727, fn2 pw 75 1) 39 rfl rfl,
  of_meth B (737, "at", 727) (by decide +kernel),
  of_fn B (26, fn1 pw 2) 40 rfl rfl,
  of_ref B ("block_of", 26) (by decide +kernel),
  of_ref B ("forward", 558) (by decide +kernel),
  of_int B ("SCALE", 8) (by decide +kernel),
  of_ref B ("quantise", 52) (by decide +kernel),
  of_fn B (572, fn1 pw 66) 41 rfl rfl,
  of_meth B (669, "blocks", 659) (by decide +kernel),
  of_ref B ("coded_block", 572) (by decide +kernel),
  of_meth B (702, "put", 699) (by decide +kernel),
  of_fn B (579, fn1 pw 67) 42 rfl rfl,
  of_fn B (638, fn2 pw 71 3) 43 rfl rfl,
  of_fn B (645, fn2 pw 71 4) 44 rfl rfl,
  of_meth B (669, "mcus_across", 638) (by decide +kernel),
  of_meth B (669, "mcus_down", 645) (by decide +kernel),
  of_fn B (666, fn2 pw 71 7) 45 rfl rfl,
  of_ref B ("_law_from", 785) (by decide +kernel),
  of_fn B (809, fn1 pw 86) 46 rfl rfl,
  of_store B "rows" (by decide +kernel),
  of_fn B (720, fn2 pw 75 0) 47 rfl rfl,
  of_store B "many" (by decide +kernel),
  of_store B "planes" (by decide +kernel),
  of_meth B (669, "padded", 666) (by decide +kernel),
  of_fn B (685, fn2 pw 73 0) 48 rfl rfl,
  of_fn B (814, fn1 pw 87) 49 rfl rfl,
  of_fn B (804, fn1 pw 85) 50 rfl rfl,
  of_fn B (821, fn1 pw 88) 51 rfl rfl,
  of_blt B ("sum", .builtin "sum") (by decide +kernel),
  of_ref B ("_law_rounded", 804) (by decide +kernel),
  of_ref B ("_law_sums", 821) (by decide +kernel),
  of_blt B ("zip", .type "zip") (by decide +kernel),
  of_fn B (826, fn1 pw 89) 52 rfl rfl,
  of_ref B ("_law_rows", 809) (by decide +kernel),
  of_ref B ("Plane", 737) (by decide +kernel),
  of_init B (737, 720) (by decide +kernel),
  of_ref B ("Grid", 702) (by decide +kernel),
  of_init B (702, 685) (by decide +kernel),
  of_ref B ("put_component", 579) (by decide +kernel),
  of_ref B ("_law_block", 814) (by decide +kernel),
  of_ref B ("_law_is_block", 826) (by decide +kernel),
  of_fn B (831, fn1 pw 90) 53 rfl rfl,
  of_ref B ("_law_urn", 778) (by decide +kernel),
  of_ref B ("Component", 603) (by decide +kernel),
  of_init B (603, 600) (by decide +kernel),
  of_ref B ("Frame", 669) (by decide +kernel),
  of_init B (669, 621) (by decide +kernel),
  of_ref B ("Settings", 767) (by decide +kernel),
  of_init B (767, 764) (by decide +kernel),
  of_ref B ("made_tables", 565) (by decide +kernel),
  of_ref B ("_law_divisors", 797) (by decide +kernel),
  of_ref B ("_law_component_right", 831) (by decide +kernel),
  of_fn B (838, fn1 pw 91) 54 rfl rfl⟩
end Mine
namespace Mine
noncomputable def zzs1 : List Int := [0]
noncomputable def lumas1 : List Int := [16]
noncomputable def chromas1 : List Int := [17]
theorem ev_zz1 (st : St) : d_zigzag_places [.int 1] st = some (.tup (zzs1.map .int), st) := by kernel_rfl
theorem ev_luma1 (st : St) : d_luma [.int 1] st = some (.tup (lumas1.map .int), st) := by kernel_rfl
theorem ev_chroma1 (st : St) : d_chroma [.int 1] st = some (.tup (chromas1.map .int), st) := by kernel_rfl
noncomputable def zzs2 : List Int := [0, 1, 2, 3]
noncomputable def lumas2 : List Int := [16, 24, 18, 68]
noncomputable def chromas2 : List Int := [17, 99, 99, 99]
theorem ev_zz2 (st : St) : d_zigzag_places [.int 2] st = some (.tup (zzs2.map .int), st) := by kernel_rfl
theorem ev_luma2 (st : St) : d_luma [.int 2] st = some (.tup (lumas2.map .int), st) := by kernel_rfl
theorem ev_chroma2 (st : St) : d_chroma [.int 2] st = some (.tup (chromas2.map .int), st) := by kernel_rfl
noncomputable def zzs4 : List Int := [0, 1, 4, 8, 5, 2, 3, 6, 9, 12, 13, 10, 7, 11, 14, 15]
noncomputable def lumas4 : List Int := [16, 10, 14, 18, 16, 24, 51, 40, 37, 49, 78, 68, 69, 103, 103, 120]
noncomputable def chromas4 : List Int := [17, 24, 24, 99, 56, 99, 99, 99, 99, 99, 99, 99, 99, 99, 99, 99]
theorem ev_zz4 (st : St) : d_zigzag_places [.int 4] st = some (.tup (zzs4.map .int), st) := by kernel_rfl
theorem ev_luma4 (st : St) : d_luma [.int 4] st = some (.tup (lumas4.map .int), st) := by kernel_rfl
theorem ev_chroma4 (st : St) : d_chroma [.int 4] st = some (.tup (chromas4.map .int), st) := by kernel_rfl
noncomputable def zzs8 : List Int := [0, 1, 8, 16, 9, 2, 3, 10, 17, 24, 32, 25, 18, 11, 4, 5, 12, 19, 26, 33, 40, 48, 41, 34, 27, 20, 13, 6, 7, 14, 21, 28, 35, 42, 49, 56, 57, 50, 43, 36, 29, 22, 15, 23, 30, 37, 44, 51, 58, 59, 52, 45, 38, 31, 39, 46, 53, 60, 61, 54, 47, 55, 62, 63]
noncomputable def lumas8 : List Int := [16, 11, 12, 14, 12, 10, 16, 14, 13, 14, 18, 17, 16, 19, 24, 40, 26, 24, 22, 22, 24, 49, 35, 37, 29, 40, 58, 51, 61, 60, 57, 51, 56, 55, 64, 72, 92, 78, 64, 68, 87, 69, 55, 56, 80, 109, 81, 87, 95, 98, 103, 104, 103, 62, 77, 113, 121, 112, 100, 120, 92, 101, 103, 99]
noncomputable def chromas8 : List Int := [17, 18, 18, 24, 21, 24, 47, 26, 26, 47, 99, 66, 56, 66, 99, 99, 99, 99, 99, 99, 99, 99, 99, 99, 99, 99, 99, 99, 99, 99, 99, 99, 99, 99, 99, 99, 99, 99, 99, 99, 99, 99, 99, 99, 99, 99, 99, 99, 99, 99, 99, 99, 99, 99, 99, 99, 99, 99, 99, 99, 99, 99, 99, 99]
theorem ev_luma8 (st : St) : d_luma [.int 8] st = some (.tup (lumas8.map .int), st) := by kernel_rfl
theorem ev_chroma8 (st : St) : d_chroma [.int 8] st = some (.tup (chromas8.map .int), st) := by kernel_rfl
end Mine
namespace Mine
/-! evaluating dens, rule by rule -/
section
variable {ρ ρ₁ ρ₂ : Rho} {st st₁ st₂ st₃ : St} {v u w : V} {vs us : List V} {x y : String} {a b d : Den V} {t : Den Bool} {r : Den (List V)} {p q : SDen} {res : Option (Fl × Rho × St)} {c : Bool}
theorem l_same : (ρ.set x v) x = some v := if_pos rfl
theorem l_ne (h : y ≠ x) (q : ρ y = some u) : (ρ.set x v) y = some u := (if_neg h).trans q
theorem l_bsame {xs : List String} : bindR (x :: xs) (v :: vs) x = some v := if_pos rfl
theorem l_bne {xs : List String} (h : y ≠ x) (q : bindR xs vs y = some u) : bindR (x :: xs) (v :: vs) y = some u := (if_neg h).trans q
theorem l_app {xs : List String} (q : bindR xs (v :: (vs ++ us)) y = some u) : bindR xs ((v :: vs) ++ us) y = some u := q
theorem l_nil {xs : List String} (q : bindR xs vs y = some u) : bindR xs ([] ++ vs) y = some u := q
theorem l_res {free : List String} (h : y ∈ free) (q : ρ y = some u) : restrict free ρ y = some u := (if_pos h).trans q
noncomputable def isOwn : V → Bool | .own _ => true | _ => false
theorem v_loc (h : ρ x = some v) (n : isOwn v = false) : dLoc x ρ st = some (v, st) := by
  unfold dLoc; rw [h]; cases v <;> first | rfl | cases n
theorem v_val : dVal v ρ st = some (v, st) := rfl
theorem v_bin {o : V → V → Option V} (ha : a ρ st = some (u, st₁)) (hb : b ρ st₁ = some (w, st₂)) (ho : o u w = some v) : dBin o a b ρ st = some (v, st₂) := by
  simp only [dBin, ha, hb, ho, Option.bind_some, Option.map_some]
theorem v_un {o : V → Option V} (ha : a ρ st = some (u, st₁)) (ho : o u = some v) : dUn o a ρ st = some (v, st₁) := by
  simp only [dUn, ha, ho, Option.bind_some, Option.map_some]
theorem v_nil : dNil ρ st = some ([], st) := rfl
theorem v_cons (ha : a ρ st = some (v, st₁)) (hr : r ρ st₁ = some (vs, st₂)) : dCons a r ρ st = some (v :: vs, st₂) := by
  simp only [dCons, ha, hr, Option.bind_some, Option.map_some]
theorem v_tup (hr : r ρ st = some (vs, st₁)) (h : vs.length ≤ 1000000) : dTup r ρ st = some (.tup vs, st₁) := by
  simp only [dTup, hr, Option.bind_some, h, if_true]
theorem v_list (hr : r ρ st = some (vs, st₁)) (h : vs.length ≤ 1000000) : dList r ρ st = some (.lst vs, st₁) := by
  simp only [dList, hr, Option.bind_some, h, if_true]
theorem v_listM (hr : r ρ st = some (vs, st₁)) (h : vs.length ≤ 1000000) : dListM r ρ st = some (.ref st₁.length, st₁ ++ [.lst vs]) := by
  simp only [dListM, hr, Option.bind_some, h, if_true]
theorem v_listG (hr : r ρ st = some (vs, st₁)) (h : vs.length ≤ 1000000) : dListG r ρ st = some (.ref st₁.length, st₁ ++ [.grow vs]) := by
  simp only [dListG, hr, Option.bind_some, h, if_true]
theorem v_call {D : List V → St → Option (V × St)} (hr : r ρ st = some (vs, st₁)) (h : D vs st₁ = some (v, st₂)) : dCall D r ρ st = some (v, st₂) := by
  simp only [dCall, hr, Option.bind_some, h]
theorem v_blt {o : List V → Option V} (hr : r ρ st = some (vs, st₁)) (h : o vs = some v) : dBlt o r ρ st = some (v, st₁) := by
  simp only [dBlt, hr, Option.bind_some, h, Option.map_some]
theorem v_item (ha : a ρ st = some (u, st₁)) (hb : b ρ st₁ = some (w, st₂)) (ho : vItem u w st₂ = some v) : dItem a b ρ st = some (v, st₂) := by
  simp only [dItem, ha, hb, ho, Option.bind_some, Option.map_some]
theorem v_attr (ha : a ρ st = some (u, st₁)) (ho : vAttr x u st₁ = some v) : dAttr x a ρ st = some (v, st₁) := by
  simp only [dAttr, ha, ho, Option.bind_some, Option.map_some]
theorem v_meth {ds : Addr → Option (List V → St → Option (V × St))} {D : List V → St → Option (V × St)} {C : Addr} {fs : List (String × V)} (ha : a ρ st = some (.obj C fs, st₁)) (hn : (fs.lookup x).isNone = true) (hd : ds C = some D)
    (hr : r ρ st₁ = some (vs, st₂)) (h : D (.obj C fs :: vs) st₂ = some (v, st₃)) : dMeth x ds a r ρ st = some (v, st₃) := by
  simp only [dMeth, ha, Option.bind_some, vHasNot, vFields, Option.any_some, hn, if_true, vClass, hd, hr, h]
theorem v_new {C : Addr} {D : List V → St → Option (V × St)} {fs : List (String × V)} (hr : r ρ st = some (vs, st₁)) (h : D (.self C st₁.length :: vs) (st₁ ++ [.fields []]) = some (.none, st₂)) (hf : st₂[st₁.length]? = some (.fields fs)) :
    dNew C D r ρ st = some (.obj C fs, st₂.set st₁.length .dead) := by
  simp only [dNew, hr, Option.bind_some, h, hf]
theorem v_ifT (ht : t ρ st = some (c, st₁)) (hc : c = true) (h : a ρ st₁ = some (v, st₂)) : dIf t a b ρ st = some (v, st₂) := by
  subst hc; simp only [dIf, ht, Option.bind_some, if_true, h]
theorem v_ifF (ht : t ρ st = some (c, st₁)) (hc : c = false) (h : b ρ st₁ = some (v, st₂)) : dIf t a b ρ st = some (v, st₂) := by
  subst hc; simp only [dIf, ht, Option.bind_some, Bool.false_eq_true, if_false, h]
theorem v_if (ht : t ρ st = some (c, st₁)) (h : (bif c then a ρ st₁ else b ρ st₁) = some (v, st₂)) : dIf t a b ρ st = some (v, st₂) := by
  cases c
  · exact v_ifF ht rfl h
  · exact v_ifT ht rfl h
theorem v_ite {f : Bool → V} (ht : t ρ st = some (c, st₁)) (h : c = true → a ρ st₁ = some (u, st₂)) (h' : c = false → b ρ st₁ = some (w, st₂)) : dIf t a b ρ st = some (bif c then u else w, st₂) := by
  cases c
  · exact v_ifF ht rfl (h' rfl)
  · exact v_ifT ht rfl (h rfl)
theorem c_T {α : Type} {z z' s : α} (hc : c = true) (h : z = s) : (bif c then z else z') = s := by subst hc; exact h
theorem c_F {α : Type} {z z' s : α} (hc : c = false) (h : z' = s) : (bif c then z else z') = s := by subst hc; exact h
theorem v_test (h : a ρ st = some (.bool c, st₁)) : dTest a ρ st = some (c, st₁) := by
  simp only [dTest, h, Option.bind_some]
theorem v_not (h : t ρ st = some (c, st₁)) : tNot t ρ st = some (!c, st₁) := by
  simp only [tNot, h, Option.map_some]
theorem v_and {t' : Den Bool} {c' : Bool} (h : t ρ st = some (c, st₁)) (h' : t' ρ st₁ = some (c', st₁)) : tAnd t t' ρ st = some (c && c', st₁) := by
  cases c <;> simp [tAnd, h, h']
theorem v_or {t' : Den Bool} {c' : Bool} (h : t ρ st = some (c, st₁)) (hc : c = false) (h' : t' ρ st₁ = some (c', st₂)) : tOr t t' ρ st = some (c', st₂) := by
  subst hc; simp [tOr, h, h']
theorem v_orT {t' : Den Bool} (h : t ρ st = some (true, st₁)) : tOr t t' ρ st = some (true, st₁) := by
  simp [tOr, h]
theorem v_chain {o₁ o₂ : V → V → Option V} {u₁ u₂ u₃ : V} (ha : a ρ st = some (u₁, st₁)) (hb : b ρ st₁ = some (u₂, st₂)) (h₁ : o₁ u₁ u₂ = some (.bool true)) (hd : d ρ st₂ = some (u₃, st₃)) (h₂ : o₂ u₂ u₃ = some (.bool c)) :
    tChain o₁ o₂ a b d ρ st = some (c, st₃) := by
  simp only [tChain, ha, hb, hd, h₁, h₂, Option.bind_some]
theorem v_comp {free : List String} {l ws : List V} (ha : a ρ st = some (u, st₁)) (hl : vIter u = some l) (hn : l.length ≤ 1000000) (h : cLoop x d l (restrict free ρ) st₁ = some (ws, st₂)) : dComp free x a d ρ st = some (.lst ws, st₂) := by
  simp only [dComp, ha, hl, hn, h, Option.bind_some, if_true, Option.map_some]
theorem v_slice {lo hi stp : Den (Option Int)} {l h s : Option Int} (ha : a ρ st = some (.lst vs, st₁)) (hl : lo ρ st₁ = some (l, st₁)) (hh : hi ρ st₁ = some (h, st₁)) (hs : stp ρ st₁ = some (s, st₁)) (hn : vs.length ≤ 1000000) (h0 : s ≠ some 0) (hv : vPick vs l h s = us) :
    dSlice a lo hi stp ρ st = some (.lst us, st₁) := by
  subst hv; simp only [dSlice, ha, hl, hh, hs, Option.bind_some, hn, h0, ne_eq, not_false_eq_true, and_self, if_true]
theorem v_pnone : pNone ρ st = some (none, st) := rfl
theorem v_psome {i : Int} (h : a ρ st = some (.int i, st₁)) : pSome a ρ st = some (some i, st₁) := by
  simp only [pSome, h, Option.bind_some]
theorem v_push {i : Nat} {us' : List V} (ho : b ρ st = some (.ref i, st₁)) (h₁ : st₁[i]? = some (.grow us')) (ha : a ρ st₁ = some (v, st₂)) (h₂ : st₂[i]? = some (.grow us)) (hn : us.length ≤ 1000000) : dPush b a ρ st = some (.none, st₂.set i (.grow (us ++ [v]))) := by
  simp only [dPush, ho, h₁, ha, h₂, hn, Option.bind_some, if_true]
theorem v_timesM {l : List V} (ha : a ρ st = some (u, st₁)) (hb : b ρ st₁ = some (w, st₂)) (h : vTimes u w = some l) : dTimesM a b ρ st = some (.ref st₂.length, st₂ ++ [.lst l]) := by
  simp only [dTimesM, ha, hb, h, Option.bind_some, Option.map_some]
theorem v_dict2 {k₁ k₂ : Int} (ha : a ρ st = some (u, st₁)) (hb : b ρ st₁ = some (w, st₂)) : dDict2 k₁ k₂ a b ρ st = some (.ref st₂.length, st₂ ++ [.dict (kvPut (kvPut [] k₁ u) k₂ w)]) := by
  simp only [dDict2, ha, hb, Option.bind_some, Option.map_some]
theorem v_dict0 : dDict0 ρ st = some (.ref st.length, st ++ [.dict []]) := rfl
/-! statements: what follows is the last premise -/
theorem q_nil : sNil ρ st = some (.next, ρ, st) := rfl
theorem q_snil (h : p ρ st = res) : sSeq sNil p ρ st = res := h
theorem q_assoc {p' : SDen} (h : sSeq p (sSeq p' q) ρ st = res) : sSeq (sSeq p p') q ρ st = res := by
  rw [← h]
  simp only [sSeq]
  cases p ρ st with
  | none => rfl
  | some z =>
    obtain ⟨f, ρ', st'⟩ := z
    cases f <;> rfl
theorem q_seq (h : p ρ st = some (.next, ρ₁, st₁)) (h' : q ρ₁ st₁ = res) : sSeq p q ρ st = res := by
  simp only [sSeq, h, Option.bind_some, h']
theorem q_asg (h : a ρ st = some (v, st₁)) (h' : q (ρ.set x v) st₁ = res) : sSeq (sAsg x a) q ρ st = res :=
  q_seq (by simp only [sAsg, h, Option.map_some]) h'
theorem q_ret (h : a ρ st = some (v, st₁)) : sSeq (sRet a) q ρ st = some (.ret v, ρ, st₁) := by
  simp only [sSeq, sRet, h, Option.map_some, Option.bind_some]
theorem q_if (h : t ρ st = some (c, st₁)) (h' : sSeq (bif c then p else q) q' ρ st₁ = res) : sSeq (sIf t p q) q' ρ st = res := by
  cases c <;> simpa only [sSeq, sIf, h, Option.bind_some, Bool.false_eq_true, if_false, if_true, cond_true, cond_false] using h'
theorem q_cT (hc : c = true) (h : sSeq p q' ρ st = res) : sSeq (bif c then p else q) q' ρ st = res := by subst hc; exact h
theorem q_cF (hc : c = false) (h : sSeq q q' ρ st = res) : sSeq (bif c then p else q) q' ρ st = res := by subst hc; exact h
theorem q_own (h : r ρ st = some (vs, st₁)) (hn : vs.length ≤ 1000000) (h' : q (ρ.set x (.own vs)) st₁ = res) : sSeq (sOwn x r) q ρ st = res :=
  q_seq (by simp only [sOwn, h, hn, Option.bind_some, if_true]) h'
theorem q_push (hx : ρ x = some (.own vs)) (h : a ρ st = some (v, st₁)) (hn : vs.length ≤ 1000000) (h' : q (ρ.set x (.own (vs ++ [v]))) st₁ = res) : sSeq (sPush x a) q ρ st = res :=
  q_seq (by simp only [sPush, hx, h, hn, Option.bind_some, if_true]) h'
theorem q_ext (hx : ρ x = some (.own vs)) (h : a ρ st = some (.lst us, st₁)) (hn : vs.length + us.length ≤ 1000000) (h' : q (ρ.set x (.own (vs ++ us))) st₁ = res) : sSeq (sExt x a) q ρ st = res :=
  q_seq (by simp only [sExt, hx, h, hn, Option.bind_some, if_true]) h'
theorem q_freeze (hx : ρ x = some (.own vs)) (h' : q (ρ.set x (.lst vs)) st = res) : sFreeze x q ρ st = res := by
  simp only [sFreeze, hx, h']
theorem q_expr (h : a ρ st = some (v, st₁)) (h' : q ρ st₁ = res) : sSeq (sExpr a) q ρ st = res :=
  q_seq (by simp only [sExpr, h, Option.map_some]) h'
theorem q_for {l : List V} (h : a ρ st = some (u, st₁)) (hl : vIter u = some l) (h' : sLoop x p l ρ st₁ = some (.next, ρ₂, st₂)) (k : q ρ₂ st₂ = res) : sSeq (sFor x a p) q ρ st = res :=
  q_seq (by simp only [sFor, h, hl, h', Option.bind_some]) k
theorem q_set {C : Addr} {i : Nat} {fs : List (String × V)} (h : a ρ st = some (v, st₁)) (ho : b ρ st₁ = some (.self C i, st₂)) (hs : st₂[i]? = some (.fields fs)) (hn : (fs.lookup x).isNone = true) (hl : fs.length < 500)
    (k : q ρ (st₂.set i (.fields (fs ++ [(x, v)]))) = res) : sSeq (sSet x b a) q ρ st = res :=
  q_seq (by simp only [sSet, h, ho, hs, hn, hl, Option.bind_some, and_self, if_true]) k
theorem q_put {i : Nat} {k : Int} {st' : St} (h : a ρ st = some (v, st₁)) (ho : b ρ st₁ = some (.ref i, st₂)) (hi : d ρ st₂ = some (.int k, st₃)) (hp : putItem i k v st₃ = some st') (h' : q ρ st' = res) : sSeq (sPut b d a) q ρ st = res :=
  q_seq (by simp only [sPut, h, ho, hi, hp, Option.bind_some, Option.map_some]) h'
theorem q_unp2 {x₁ x₂ : String} {v₁ v₂ : V} (h : a ρ st = some (u, st₁)) (hu : vUnpack u = some [v₁, v₂]) (h' : q ((ρ.set x₁ v₁).set x₂ v₂) st₁ = res) : sSeq (sUnp [x₁, x₂] a) q ρ st = res :=
  q_seq (by simp only [sUnp, h, hu, Option.bind_some, List.length_cons, List.length_nil, if_true, setAll]) h'
theorem q_unp4 {x₁ x₂ x₃ x₄ : String} {v₁ v₂ v₃ v₄ : V} (h : a ρ st = some (u, st₁)) (hu : vUnpack u = some [v₁, v₂, v₃, v₄]) (h' : q ((((ρ.set x₁ v₁).set x₂ v₂).set x₃ v₃).set x₄ v₄) st₁ = res) : sSeq (sUnp [x₁, x₂, x₃, x₄] a) q ρ st = res :=
  q_seq (by simp only [sUnp, h, hu, Option.bind_some, List.length_cons, List.length_nil, if_true, setAll]) h'
theorem q_unp8 {x₁ x₂ x₃ x₄ x₅ x₆ x₇ x₈ : String} {v₁ v₂ v₃ v₄ v₅ v₆ v₇ v₈ : V} (h : a ρ st = some (u, st₁)) (hu : vUnpack u = some [v₁, v₂, v₃, v₄, v₅, v₆, v₇, v₈])
    (h' : q ((((((((ρ.set x₁ v₁).set x₂ v₂).set x₃ v₃).set x₄ v₄).set x₅ v₅).set x₆ v₆).set x₇ v₇).set x₈ v₈) st₁ = res) : sSeq (sUnp [x₁, x₂, x₃, x₄, x₅, x₆, x₇, x₈] a) q ρ st = res :=
  q_seq (by simp only [sUnp, h, hu, Option.bind_some, List.length_cons, List.length_nil, if_true, setAll]) h'
theorem q_unpR2 {x₁ x₂ : String} {v₁ v₂ : V} (h : a ρ st = some (.tup [v₁, v₂], st₁)) (h' : q ((ρ.set x₂ v₂).set x₁ v₁) st₁ = res) : sSeq (sUnpR [x₁, x₂] a) q ρ st = res :=
  q_seq (by simp only [sUnpR, h, vUnpack, Option.bind_some, List.length_cons, List.length_nil, if_true, setAll, List.reverse_cons, List.reverse_nil, List.nil_append, List.cons_append]) h'
theorem q_unpR3 {x₁ x₂ x₃ : String} {v₁ v₂ v₃ : V} (h : a ρ st = some (.tup [v₁, v₂, v₃], st₁)) (h' : q (((ρ.set x₃ v₃).set x₂ v₂).set x₁ v₁) st₁ = res) : sSeq (sUnpR [x₁, x₂, x₃] a) q ρ st = res :=
  q_seq (by simp only [sUnpR, h, vUnpack, Option.bind_some, List.length_cons, List.length_nil, if_true, setAll, List.reverse_cons, List.reverse_nil, List.nil_append, List.cons_append]) h'
theorem q_sret : sSeq p sNil ρ st = p ρ st := by
  simp only [sSeq, sNil]
  cases p ρ st with
  | none => rfl
  | some z => obtain ⟨f, ρ', st'⟩ := z; cases f <;> rfl
theorem run_ret {names : List String} {ds : List V} {k : Nat} (hl : vs.length = k) (h : p (bindR names (vs ++ ds)) st = some (.ret v, ρ₁, st₁)) : runBody names ds k p vs st = some (v, st₁) := by
  simp only [runBody, hl, if_true, h, Option.bind_some]
theorem run_next {names : List String} {ds : List V} {k : Nat} (hl : vs.length = k) (h : p (bindR names (vs ++ ds)) st = some (.next, ρ₁, st₁)) : runBody names ds k p vs st = some (.none, st₁) := by
  simp only [runBody, hl, if_true, h, Option.bind_some]
/-! operators on ints -/
variable {i j : Int}
theorem o_add : oAdd (.int i) (.int j) = some (.int (i + j)) := rfl
theorem o_sub : oSub (.int i) (.int j) = some (.int (i - j)) := rfl
theorem o_mulr (h : j.natAbs < 2 ^ 64) : oMul (.int i) (.int j) = some (.int (i * j)) := if_pos (.inl h)
theorem o_mull (h : i.natAbs < 2 ^ 64) : oMul (.int i) (.int j) = some (.int (i * j)) := if_pos (.inr h)
theorem o_div (h : j ≠ 0 ∧ j.natAbs < 1073741824) : oDiv (.int i) (.int j) = some (.int (i.fdiv j)) := if_pos h
theorem o_mod (h : j ≠ 0) : oMod (.int i) (.int j) = some (.int (i.fmod j)) := if_pos h
theorem o_shl (h : 0 ≤ j ∧ j ≤ 1000000 ∧ i.natAbs < 2 ^ 64) : oShl (.int i) (.int j) = some (.int (i * 2 ^ j.toNat)) := if_pos h
theorem o_shr (h : 0 ≤ j) : oShr (.int i) (.int j) = some (.int (i.fdiv (2 ^ j.toNat))) := if_pos h
theorem o_pow (h : 0 ≤ j ∧ j ≤ 1000000 ∧ i.natAbs < 2 ^ 64) : oPow (.int i) (.int j) = some (.int (i ^ j.toNat)) := if_pos h
theorem o_neg : oNeg (.int i) = some (.int (-i)) := rfl
theorem o_lt : oLt (.int i) (.int j) = some (.bool (decide (i < j))) := rfl
theorem o_le : oLe (.int i) (.int j) = some (.bool (decide (i ≤ j))) := rfl
theorem o_gt : oGt (.int i) (.int j) = some (.bool (decide (i > j))) := rfl
theorem o_ge : oGe (.int i) (.int j) = some (.bool (decide (i ≥ j))) := rfl
theorem shaped_int : SeqAt.shaped (.int i) = true := by
  simp only [SeqAt.shaped, PyData.canLay0, PyData.depth, Nat.zero_le, decide_true, Bool.and_self]
theorem eqB_int : eqB (.int i) (.int j) = some (i == j) := by
  simp only [eqB, vData, Option.bind_some, shaped_int, Bool.and_self, if_true, PyData.eqv]
theorem o_eq : oEq (.int i) (.int j) = some (.bool (i == j)) := by rw [oEq, eqB_int]; rfl
theorem o_ne : oNe (.int i) (.int j) = some (.bool (!(i == j))) := by rw [oNe, eqB_int]; rfl
theorem b_max : bMax2 [.int i, .int j] = some (.int (max i j)) := rfl
theorem b_min : bMin2 [.int i, .int j] = some (.int (min i j)) := rfl
theorem b_abs : bAbs [.int i] = some (.int (i.natAbs : Int)) := rfl
theorem b_len (h : vs.length ≤ 1000000) : bLen [.lst vs] = some (.int vs.length) := if_pos h
theorem b_rng1 : bRange [.int i] = some (.rng 0 i 1) := rfl
theorem b_rng2 : bRange [.int i, .int j] = some (.rng i j 1) := rfl
theorem b_tuple (h : vs.length ≤ 1000000) : bTuple [.lst vs] = some (.tup vs) := if_pos h
theorem b_list (h : vs.length ≤ 1000000) : bList [.lst vs] = some (.lst vs) := if_pos h
end
end Mine
namespace Mine
theorem beqT {i j : Int} (h : i = j) : (i == j) = true := by simpa using h
theorem beqF {i j : Int} (h : ¬ i = j) : (i == j) = false := by simpa using h
theorem notT {c : Bool} (h : c = false) : (!c) = true := by simpa using h
theorem notF {c : Bool} (h : c = true) : (!c) = false := by simpa using h
theorem l_ne' {ρ : Rho} {x y : String} {v u : V} (h : (y == x) = false) (q : ρ y = some u) : (ρ.set x v) y = some u := l_ne (by simpa using h) q
theorem l_bne' {x y : String} {v u : V} {vs : List V} {xs : List String} (h : (y == x) = false) (q : bindR xs vs y = some u) : bindR (x :: xs) (v :: vs) y = some u := l_bne (by simpa using h) q
/-! ranges -/
theorem rngL_eq (a : Int) : ∀ n : Nat, rngL a 1 n = (List.range n).map fun (i : Nat) => V.int (a + (i : Int))
  | 0 => rfl
  | n + 1 => by
    rw [rngL, rngL_eq (a + 1) n, List.range_succ_eq_map, List.map_cons, List.map_map]
    congr 1
    · simp
    · refine List.map_congr_left fun i _ => ?_
      simp only [Function.comp_apply]; congr 1; lia
theorem size_one (a b : Int) : (Builtin.Range.rangeSize a b 1).toNat = (b - a).toNat := by
  unfold Builtin.Range.rangeSize
  simp only [show ((1 : Int) > 0) from by decide, if_true, Int.ediv_one]
  split <;> lia
theorem iter_rng {a b : Int} {n : Nat} (h : b = a + n) (h1 : 0 ≤ a) (h2 : b ≤ 1000000) : vIter (.rng a b 1) = some ((List.range n).map fun (i : Nat) => V.int (a + (i : Int))) := by
  simp only [vIter]
  rw [if_pos (small_one (by lia) (by lia) (by lia) (by lia)), size_one, show (b - a).toNat = n by lia, rngL_eq]
theorem iter_rng0 {b : Int} {n : Nat} (h : b = n) (h2 : b ≤ 1000000) : vIter (.rng 0 b 1) = some ((List.range n).map fun (i : Nat) => V.int (i : Int)) := by
  rw [iter_rng (n := n) (by lia) (by decide) h2]
  simp only [Int.zero_add]
/-! loops -/
theorem cLoop_pure {x : String} {d : Den V} {ρ : Rho} {st : St} {g : V → V} : ∀ {l : List V}, (∀ v ∈ l, d (ρ.set x v) st = some (g v, st)) → cLoop x d l ρ st = some (l.map g, st)
  | [], _ => rfl
  | v :: l, h => by
    have e := h v List.mem_cons_self
    have ih := cLoop_pure (l := l) fun u hu => h u (List.mem_cons_of_mem _ hu)
    simp only [cLoop, e, ih, Option.bind_some, Option.map_some, List.map_cons]
theorem cLoop_ints {x : String} {d : Den V} {ρ : Rho} {st : St} {g : Int → V} {l : List Int} (h : ∀ i ∈ l, d (ρ.set x (.int i)) st = some (g i, st)) : cLoop x d (l.map .int) ρ st = some (l.map g, st) := by
  have := cLoop_pure (x := x) (d := d) (ρ := ρ) (st := st) (g := fun v => match v with | .int i => g i | _ => .none) (l := l.map .int) (by
    intro v hv; obtain ⟨i, hi, rfl⟩ := List.mem_map.mp hv; exact h i hi)
  rw [this, List.map_map]; rfl
theorem cLoop_range {x : String} {d : Den V} {ρ : Rho} {st : St} {g : Nat → V} {n : Nat} {a : Int} (h : ∀ i, i < n → d (ρ.set x (.int (a + (i : Int)))) st = some (g i, st)) : cLoop x d ((List.range n).map fun (i : Nat) => V.int (a + (i : Int))) ρ st = some ((List.range n).map g, st) := by
  have key : ∀ l : List Nat, (∀ i ∈ l, i < n) → cLoop x d (l.map fun (i : Nat) => V.int (a + (i : Int))) ρ st = some (l.map g, st) := by
    intro l
    induction l with
    | nil => intro _; rfl
    | cons i l ih =>
      intro hl
      simp only [List.map_cons, cLoop, h i (hl i List.mem_cons_self), ih fun j hj => hl j (List.mem_cons_of_mem _ hj), Option.bind_some, Option.map_some]
  exact key _ fun i hi => List.mem_range.mp hi
theorem cLoop_ex {x : String} {d : Den V} {ρ : Rho} {I : St → Prop} {P : V → Prop} (h : ∀ v st, I st → ∃ u st', d (ρ.set x v) st = some (u, st') ∧ I st' ∧ P u) : ∀ (l : List V) (st : St), I st →
    ∃ us st', cLoop x d l ρ st = some (us, st') ∧ I st' ∧ us.length = l.length ∧ ∀ u ∈ us, P u
  | [], st, i => ⟨[], st, rfl, i, rfl, by simp⟩
  | v :: l, st, i => by
    obtain ⟨u, st₁, e, i₁, p⟩ := h v st i
    obtain ⟨us, st₂, e₂, i₂, n, p₂⟩ := cLoop_ex h l st₁ i₁
    refine ⟨u :: us, st₂, by simp only [cLoop, e, e₂, Option.bind_some, Option.map_some], i₂, by simp [n], fun w hw => ?_⟩
    rcases List.mem_cons.mp hw with rfl | hw
    · exact p
    · exact p₂ w hw
theorem cLoop_alloc {x : String} {d : Den V} {ρ : Rho} {m : MO} (h : ∀ v st, d (ρ.set x v) st = some (.ref st.length, st ++ [m])) : ∀ (l : List V) (st : St),
    cLoop x d l ρ st = some ((List.range l.length).map (fun i => V.ref (st.length + i)), st ++ List.replicate l.length m)
  | [], st => by simp [cLoop]
  | v :: l, st => by
    simp only [cLoop, h, cLoop_alloc h l, Option.bind_some, Option.map_some, List.length_cons, List.range_succ_eq_map, List.map_cons, List.map_map, List.length_append, List.length_nil, List.replicate_succ, List.append_assoc, List.cons_append, List.nil_append, Nat.add_zero, Nat.zero_add]
    congr 2
    congr 1
    refine List.map_congr_left fun i _ => ?_
    simp only [Function.comp_apply]; congr 1; lia
theorem zLoop_pure {x y : String} {d : Den V} {ρ : Rho} {st : St} {g : Int → Int → V} : ∀ {as bs : List Int}, (∀ i j, (i, j) ∈ as.zip bs → d ((ρ.set x (.int i)).set y (.int j)) st = some (g i j, st)) →
    zLoop x y d ((as.map V.int).zip (bs.map V.int)) ρ st = some (List.zipWith g as bs, st)
  | [], _, _ => rfl
  | a :: as, [], _ => rfl
  | a :: as, b :: bs, h => by
    have ih := zLoop_pure (as := as) (bs := bs) fun i j hij => h i j (List.mem_cons_of_mem _ hij)
    simp only [List.map_cons, List.zip_cons_cons, zLoop, h a b List.mem_cons_self, ih, Option.bind_some, Option.map_some, List.zipWith_cons_cons]
theorem sLoop_inv {x : String} {b : SDen} {I : Nat → Rho → St → Prop} : ∀ (l : List V) (k : Nat) (ρ : Rho) (st : St), I k ρ st → (∀ j v ρ st, l[j]? = some v → I (k + j) ρ st → ∃ ρ' st', b (ρ.set x v) st = some (.next, ρ', st') ∧ I (k + j + 1) ρ' st') →
    ∃ ρ' st', sLoop x b l ρ st = some (.next, ρ', st') ∧ I (k + l.length) ρ' st'
  | [], k, ρ, st, i, _ => ⟨ρ, st, rfl, i⟩
  | v :: l, k, ρ, st, i, h => by
    obtain ⟨ρ₁, st₁, e, i₁⟩ := h 0 v ρ st rfl i
    obtain ⟨ρ₂, st₂, e₂, i₂⟩ := sLoop_inv l (k + 1) ρ₁ st₁ i₁ fun j u ρ st hj hi => by
      have := h (j + 1) u ρ st (by simpa using hj) (by rw [show k + (j + 1) = k + 1 + j by lia]; exact hi)
      rw [show k + (j + 1) + 1 = k + 1 + j + 1 by lia] at this; exact this
    refine ⟨ρ₂, st₂, by simp only [sLoop, e, e₂, Option.bind_some], ?_⟩
    rw [List.length_cons, show k + (l.length + 1) = k + 1 + l.length by lia]; exact i₂
/-- over a range -/
theorem sLoop_range {x : String} {b : SDen} {I : Nat → Rho → St → Prop} {a : Int} {n : Nat} {ρ : Rho} {st : St} (i : I 0 ρ st) (h : ∀ j ρ st, j < n → I j ρ st → ∃ ρ' st', b (ρ.set x (.int (a + (j : Int)))) st = some (.next, ρ', st') ∧ I (j + 1) ρ' st') :
    ∃ ρ' st', sLoop x b ((List.range n).map fun (i : Nat) => V.int (a + (i : Int))) ρ st = some (.next, ρ', st') ∧ I n ρ' st' := by
  have := sLoop_inv (x := x) (b := b) (I := I) ((List.range n).map fun (i : Nat) => V.int (a + (i : Int))) 0 ρ st i fun j v ρ st hj hi => by
    rw [List.getElem?_map, Option.map_eq_some_iff] at hj
    obtain ⟨k, hk, rfl⟩ := hj
    obtain ⟨hj, e⟩ := List.getElem?_eq_some_iff.mp hk
    rw [List.getElem_range] at e; subst e
    rw [Nat.zero_add] at hi ⊢
    exact h j ρ st (by simpa using hj) hi
  simpa using this
theorem sLoop_range0 {x : String} {b : SDen} {I : Nat → Rho → St → Prop} {n : Nat} {ρ : Rho} {st : St} (i : I 0 ρ st) (h : ∀ j ρ st, j < n → I j ρ st → ∃ ρ' st', b (ρ.set x (.int (j : Int))) st = some (.next, ρ', st') ∧ I (j + 1) ρ' st') :
    ∃ ρ' st', sLoop x b ((List.range n).map fun (i : Nat) => V.int (i : Int)) ρ st = some (.next, ρ', st') ∧ I n ρ' st' := by
  have := sLoop_range (x := x) (b := b) (I := I) (a := 0) (n := n) (ρ := ρ) (st := st) i fun j ρ st hj hi => by
    rw [Int.zero_add]; exact h j ρ st hj hi
  simpa only [Int.zero_add] using this
/-! reads of lists -/
theorem at_ok {vs : List V} {k : Int} {v : V} (h : vs[k.toNat]? = some v) (h0 : 0 ≤ k) (h1 : k < 1000000) : at? vs k = some v := by
  rw [at?, if_pos ⟨h0, h1⟩, h]
theorem at_nat {vs : List V} {k : Nat} {v : V} (h : vs[k]? = some v) (h1 : k < 1000000) : at? vs (k : Int) = some v := at_ok (by simpa using h) (by lia) (by lia)
end Mine
namespace Mine
theorem c_nil {x : String} {d : Den V} {ρ : Rho} {st : St} : cLoop x d [] ρ st = some ([], st) := rfl
theorem c_cons {x : String} {d : Den V} {ρ : Rho} {st st₁ st₂ : St} {v w : V} {l ws : List V} (h : d (ρ.set x v) st = some (w, st₁)) (h' : cLoop x d l ρ st₁ = some (ws, st₂)) : cLoop x d (v :: l) ρ st = some (w :: ws, st₂) := by
  simp only [cLoop, h, h', Option.bind_some, Option.map_some]
theorem it_tup {l : List V} : vIter (.tup l) = some l := rfl
theorem it_lst {l : List V} : vIter (.lst l) = some l := rfl
theorem u_tup {l : List V} : vUnpack (.tup l) = some l := rfl
theorem u_lst {l : List V} : vUnpack (.lst l) = some l := rfl
theorem sl_nil {x : String} {b : SDen} {ρ : Rho} {st : St} : sLoop x b [] ρ st = some (.next, ρ, st) := rfl
theorem sl_cons {x : String} {b : SDen} {ρ ρ₁ : Rho} {st st₁ : St} {v : V} {l : List V} {res : Option (Fl × Rho × St)} (h : b (ρ.set x v) st = some (.next, ρ₁, st₁)) (h' : sLoop x b l ρ₁ st₁ = res) : sLoop x b (v :: l) ρ st = res := by
  simp only [sLoop, h, h', Option.bind_some]
theorem at_obj {x : String} {C : Addr} {fs : List (String × V)} {v : V} {st : St} (h : fs.lookup x = some v) : vAttr x (.obj C fs) st = some v := h
theorem at_self {x : String} {C : Addr} {i : Nat} {fs : List (String × V)} {v : V} {st : St} (hs : st[i]? = some (.fields fs)) (h : fs.lookup x = some v) : vAttr x (.self C i) st = some v := by
  simp only [vAttr, vFields, hs, Option.bind_some, h]
theorem lk_same {x : String} {v : V} {fs : List (String × V)} : ((x, v) :: fs).lookup x = some v := by simp [List.lookup]
theorem lk_ne {x y : String} {v u : V} {fs : List (String × V)} (n : (y == x) = false) (h : fs.lookup y = some u) : ((x, v) :: fs).lookup y = some u := by
  simp only [List.lookup, n, h]
noncomputable abbrev Meth := List V → St → Option (V × St)
theorem is_none {α : Type} {o : Option α} (h : Option.isNone o = true) : Option.isNone o = true := h
theorem ds_if {C D : Addr} {d : Meth} (h : C = D) : (if C = D then some d else none) = some d := if_pos h
theorem ds_no {C D : Addr} {d : Meth} (h : ¬ C = D) : (if C = D then some d else none) = none := if_neg h
theorem ds_or1 {a b : Addr → Option Meth} {C : Addr} {d : Meth} (h : a C = some d) : dOr a b C = some d := by simp only [dOr, h]
theorem ds_or2 {a b : Addr → Option Meth} {C : Addr} {d : Meth} (h : a C = none) (h' : b C = some d) : dOr a b C = some d := by simp only [dOr, h, h']
theorem b_lenR {n : Nat} {g : Nat → V} (h : n ≤ 1000000) : bLen [.lst ((List.range n).map g)] = some (.int (n : Int)) := by
  rw [b_len (by simpa using h)]; simp
theorem b_lenM {cs : List Int} (h : cs.length ≤ 1000000) : bLen [.lst (cs.map V.int)] = some (.int (cs.length : Int)) := by
  rw [b_len (by simpa using h)]; simp
theorem eqA {α : Type} {a b : α} (h : a = b) : a = b := h
theorem nabc {n : Nat} (h : n ≤ 1000000) : ((n : Nat) : Int).natAbs < 2 ^ 64 := by lia
theorem nab {i : Int} (h : -1000000 ≤ i) (h' : i ≤ 1000000) : i.natAbs < 2 ^ 64 := by lia
theorem lt_ok {n : Nat} (h : n < 500) : n < 500 := h
theorem ne_ok {α : Type} {a b : α} (h : a ≠ b) : a ≠ b := h
theorem run_retE {p : SDen} {ρ₁ : Rho} {st st₁ st₂ : St} {v w : V} {vs : List V} {names : List String} {ds : List V} {k : Nat} (hl : vs.length = k) (h : p (bindR names (vs ++ ds)) st = some (.ret v, ρ₁, st₁)) (e : v = w) (e' : st₁ = st₂) :
    runBody names ds k p vs st = some (w, st₂) := by
  subst e; subst e'; exact run_ret hl h
theorem run_nextE {p : SDen} {ρ₁ : Rho} {st st₁ st₂ : St} {vs : List V} {names : List String} {ds : List V} {k : Nat} (hl : vs.length = k) (h : p (bindR names (vs ++ ds)) st = some (.next, ρ₁, st₁)) (e' : st₁ = st₂) :
    runBody names ds k p vs st = some (.none, st₂) := by
  subst e'; exact run_next hl h
theorem len_ok {n : Nat} (h : n ≤ 1000000) : n ≤ 1000000 := h
theorem il0 {v0 : V} {vs : List V} {st : St} : vItem (.lst (v0 :: vs)) (.int 0) st = some v0 := rfl
theorem il1 {v0 v1 : V} {vs : List V} {st : St} : vItem (.lst (v0 :: v1 :: vs)) (.int 1) st = some v1 := rfl
theorem il2 {v0 v1 v2 : V} {vs : List V} {st : St} : vItem (.lst (v0 :: v1 :: v2 :: vs)) (.int 2) st = some v2 := rfl
theorem il3 {v0 v1 v2 v3 : V} {vs : List V} {st : St} : vItem (.lst (v0 :: v1 :: v2 :: v3 :: vs)) (.int 3) st = some v3 := rfl
theorem il4 {v0 v1 v2 v3 v4 : V} {vs : List V} {st : St} : vItem (.lst (v0 :: v1 :: v2 :: v3 :: v4 :: vs)) (.int 4) st = some v4 := rfl
theorem il5 {v0 v1 v2 v3 v4 v5 : V} {vs : List V} {st : St} : vItem (.lst (v0 :: v1 :: v2 :: v3 :: v4 :: v5 :: vs)) (.int 5) st = some v5 := rfl
/-! words held free by the layer: top_caughtB a name's value; top_raiseB a side condition; top_raise0 a call; top_argsB evaluation; top_raiseB0 one statement -/
set_option hygiene false
local macro_rules | `(tactic| top_caughtB) => `(tactic| first
  | (with_reducible first | exact l_same | exact l_bsame | exact lk_same | (apply eqA; assumption))
  | ((with_reducible first | apply l_ne' | apply l_bne' | apply lk_ne); (focus kernel_rfl); top_caughtB)
  | ((with_reducible first | apply l_app | apply l_nil); top_caughtB)
  | ((with_reducible apply l_res); (focus decide); top_caughtB))
local macro_rules | `(tactic| top_raiseB) => `(tactic| first
  | with_reducible rfl | decide | with_reducible assumption | exact decide_eq_true (by omega) | exact decide_eq_false (by omega) | exact beqT (by omega) | exact beqF (by omega) | ((first | refine notT ?_ | refine notF ?_); top_raiseB) | ((with_reducible refine nabc ?_); omega) | ((with_reducible refine nab ?_ ?_) <;> omega) | omega)
local macro_rules | `(tactic| top_raise0) => `(tactic| first | (with_reducible first | (apply eqA; assumption) | (refine ne_ok ?_; decide) | rfl) | skip)
local macro_rules | `(tactic| top_argsB) => `(tactic| first
  | (with_reducible first | exact v_nil | exact v_val | exact v_pnone)
  | ((with_reducible apply v_loc) <;> first | top_caughtB | rfl)
  | ((with_reducible refine len_ok ?_); first | with_reducible assumption | omega | (simp only [List.length_append, List.length_cons, List.length_nil, List.length_map, List.length_range] <;> omega))
  | ((with_reducible refine lt_ok ?_); first | omega | (simp only [List.length_append, List.length_cons, List.length_nil] <;> omega))
  | ((with_reducible first | apply v_cons | apply v_bin | apply v_un) <;> top_argsB)
  | (with_reducible first | exact o_add | exact o_sub | exact o_neg | exact o_lt | exact o_le | exact o_gt | exact o_ge | exact o_eq | exact o_ne | exact b_max | exact b_min | exact b_abs | exact b_rng1 | exact b_rng2)
  | ((with_reducible refine o_mulr ?_); top_raiseB) | ((with_reducible refine o_mull ?_); top_raiseB)
  | ((with_reducible first | refine o_div ?_ | refine o_mod ?_ | refine o_shl ?_ | refine o_shr ?_ | refine o_pow ?_); top_raiseB)
  | ((with_reducible refine b_lenR ?_); top_argsB) | ((with_reducible refine b_lenM ?_); top_argsB)
  | ((with_reducible first | apply b_len | apply b_tuple | apply b_list | apply v_tup | apply v_list | apply v_listM | apply v_listG | apply v_test | apply v_not | apply v_blt | apply v_attr) <;> top_argsB)
  | ((with_reducible apply v_or); (focus top_argsB); (focus top_raiseB); top_argsB)
  | ((with_reducible apply at_obj); top_caughtB)
  | ((with_reducible apply at_self); (focus top_argsB); top_caughtB)
  | ((with_reducible first | apply v_item | apply v_call | apply v_meth | apply v_new | apply v_psome | apply v_slice | apply v_if | apply v_comp | apply v_dict2 | apply c_cons) <;> top_argsB)
  | (with_reducible first | exact il0 | exact il1 | exact il2 | exact il3 | exact il4 | exact il5 | exact v_dict0 | exact c_nil | exact it_tup | exact it_lst | exact u_tup | exact u_lst)
  | ((with_reducible refine is_none ?_); kernel_rfl)
  | ((with_reducible first | apply ds_if | apply ds_no | (apply ds_or1; apply ds_if)); decide) | ((with_reducible apply ds_or2); (focus ((with_reducible apply ds_no); decide)); top_argsB)
  | ((with_reducible apply c_T); (focus top_raiseB); top_argsB) | ((with_reducible apply c_F); (focus top_raiseB); top_argsB)
  | top_raise0)
local macro_rules | `(tactic| top_raiseB0) => `(tactic| first
  | (with_reducible first | exact q_nil | apply q_snil | apply q_assoc | exact sl_nil | apply sl_cons)
  | ((with_reducible first | apply q_ret | apply q_asg | apply q_if | apply q_own | apply q_expr | apply q_unpR2 | apply q_unpR3 | apply q_unp2 | apply q_unp4 | apply q_unp8 | apply q_set | apply q_for) <;> top_argsB)
  | ((with_reducible apply q_cT); focus top_raiseB) | ((with_reducible apply q_cF); focus top_raiseB)
  | ((with_reducible first | apply q_push | apply q_ext | apply q_freeze) <;> first | top_caughtB | top_argsB))
section
noncomputable def ev0 (a b c d : Int) : Int := a + d + b + c
noncomputable def ev1 (a b c d : Int) : Int := a + d - b - c
noncomputable def ev2 (a b c d : Int) : Int := (a - d + (b - c)) * 4433 + (a - d) * 6270
noncomputable def ev3 (a b c d : Int) : Int := (a - d + (b - c)) * 4433 - (b - c) * 15137
noncomputable def od0 (a b c d : Int) : Int := a * 2446 - (a + d) * 7373 + ((a + c + b + d) * 9633 - (a + c) * 16069)
noncomputable def od1 (a b c d : Int) : Int := b * 16819 - (b + c) * 20995 + ((a + c + b + d) * 9633 - (b + d) * 3196)
noncomputable def od2 (a b c d : Int) : Int := c * 25172 - (b + c) * 20995 + ((a + c + b + d) * 9633 - (a + c) * 16069)
noncomputable def od3 (a b c d : Int) : Int := d * 12299 - (a + d) * 7373 + ((a + c + b + d) * 9633 - (b + d) * 3196)
theorem s_even (a b c d : Int) (st : St) : d_even_forward [.int a, .int b, .int c, .int d] st = some (.tup [.int (ev0 a b c d), .int (ev1 a b c d), .int (ev2 a b c d), .int (ev3 a b c d)], st) := by
  apply run_retE rfl
  unfold b_even_forward
  repeat top_raiseB0
  all_goals rfl
theorem s_odd (a b c d : Int) (st : St) : d_odd_flow [.int a, .int b, .int c, .int d] st = some (.tup [.int (od0 a b c d), .int (od1 a b c d), .int (od2 a b c d), .int (od3 a b c d)], st) := by
  apply run_retE rfl
  unfold b_odd_flow
  repeat top_raiseB0
  all_goals rfl
noncomputable def dsF (n k : Int) : Int := (n + 1 * 2 ^ (k - 1).toNat).fdiv (2 ^ k.toNat)
theorem s_desc {k : Int} (n : Int) (st : St) (h : 1 ≤ k ∧ k ≤ 20) : d_descaled [.int n, .int k] st = some (.int (dsF n k), st) := by
  unfold dsF
  apply run_retE rfl
  unfold b_descaled
  repeat top_raiseB0
  all_goals rfl
local macro_rules | `(tactic| top_raise0) => `(tactic| first | (with_reducible first | apply s_even | apply s_odd) | ((with_reducible apply s_desc); decide))
/-- the c-th number of a row of eight, gone through -/
noncomputable def fwdC (P : Int → Int) (k : Int) (a b c d e f g h : Int) : Nat → Int
  | 0 => P (ev0 (a + h) (b + g) (c + f) (d + e))
  | 1 => dsF (od3 (d - e) (c - f) (b - g) (a - h)) k
  | 2 => dsF (ev2 (a + h) (b + g) (c + f) (d + e)) k
  | 3 => dsF (od2 (d - e) (c - f) (b - g) (a - h)) k
  | 4 => P (ev1 (a + h) (b + g) (c + f) (d + e))
  | 5 => dsF (od1 (d - e) (c - f) (b - g) (a - h)) k
  | 6 => dsF (ev3 (a + h) (b + g) (c + f) (d + e)) k
  | _ => dsF (od0 (d - e) (c - f) (b - g) (a - h)) k
noncomputable def fwd (P : Int → Int) (k : Int) (a b c d e f g h : Int) : List V := [.int (fwdC P k a b c d e f g h 0), .int (fwdC P k a b c d e f g h 1), .int (fwdC P k a b c d e f g h 2), .int (fwdC P k a b c d e f g h 3),
  .int (fwdC P k a b c d e f g h 4), .int (fwdC P k a b c d e f g h 5), .int (fwdC P k a b c d e f g h 6), .int (fwdC P k a b c d e f g h 7)]
noncomputable def dn2 (z : Int) : Int := dsF z 2
theorem s_row2 (a b c d e f g h : Int) (st : St) : d_forward_row [.lst [.int a, .int b, .int c, .int d, .int e, .int f, .int g, .int h], .int 0, .int 2, .int (13 + 2)] st = some (.lst (fwd dn2 (13 + 2) a b c d e f g h), st) := by
  apply run_retE rfl
  unfold b_forward_row
  repeat top_raiseB0
  all_goals rfl
noncomputable abbrev Bd (a : Int) : Prop := -8192 ≤ a ∧ a ≤ 8192
noncomputable def up2 (z : Int) : Int := z * 2 ^ (2 : Int).toNat
theorem s_row1 (a b c d e f g h : Int) (st : St) (ha : Bd a) (hb : Bd b) (hc : Bd c) (hd : Bd d) (he : Bd e) (hf : Bd f) (hg : Bd g) (hh : Bd h) :
    d_forward_row [.lst [.int a, .int b, .int c, .int d, .int e, .int f, .int g, .int h], .int 2, .int 0, .int (13 - 2)] st = some (.lst (fwd up2 (13 - 2) a b c d e f g h), st) := by
  have b0 : 0 ≤ (2 : Int) ∧ (2 : Int) ≤ 1000000 ∧ (ev0 (a + h) (b + g) (c + f) (d + e)).natAbs < 2 ^ 64 := by unfold ev0; lia
  have b1 : 0 ≤ (2 : Int) ∧ (2 : Int) ≤ 1000000 ∧ (ev1 (a + h) (b + g) (c + f) (d + e)).natAbs < 2 ^ 64 := by unfold ev1; lia
  apply run_retE rfl
  unfold b_forward_row
  repeat top_raiseB0
  all_goals rfl
theorem s_row1X {X : Nat → Int} (hX : ∀ i, Bd (X i)) (a b c d e f g h : Nat) (st : St) : d_forward_row [.lst [.int (X a), .int (X b), .int (X c), .int (X d), .int (X e), .int (X f), .int (X g), .int (X h)], .int 2, .int 0, .int (13 - 2)] st =
      some (.lst (fwd up2 (13 - 2) (X a) (X b) (X c) (X d) (X e) (X f) (X g) (X h)), st) := s_row1 _ _ _ _ _ _ _ _ _ (hX _) (hX _) (hX _) (hX _) (hX _) (hX _) (hX _) (hX _)
end
section
noncomputable abbrev blk (n : Nat) (X : Nat → Int) : List V := (List.range n).map fun (i : Nat) => V.int (X i)
theorem b_rng3 {i j d : Int} (h : d ≠ 0 ∧ d.natAbs < 1000000) : bRange [.int i, .int j, .int d] = some (.rng i j d) := if_pos h
theorem it_8 : vIter (.rng 0 (8 * 8) 8) = some [.int 0, .int 8, .int 16, .int 24, .int 32, .int 40, .int 48, .int 56] := by kernel_rfl
theorem it_4 : vIter (.rng 0 (4 * 4) 4) = some [.int 0, .int 4, .int 8, .int 12] := by kernel_rfl
theorem fwd_len {P : Int → Int} {k a b c d e f g h : Int} : (fwd P k a b c d e f g h).length = 8 := rfl
theorem pk0 {X : Nat → Int} : vPick (blk 64 X) (some 0) (some (0 + 8)) none = [.int (X 0), .int (X 1), .int (X 2), .int (X 3), .int (X 4), .int (X 5), .int (X 6), .int (X 7)] := by kernel_rfl
theorem pk1 {X : Nat → Int} : vPick (blk 64 X) (some 8) (some (8 + 8)) none = [.int (X 8), .int (X 9), .int (X 10), .int (X 11), .int (X 12), .int (X 13), .int (X 14), .int (X 15)] := by kernel_rfl
theorem pk2 {X : Nat → Int} : vPick (blk 64 X) (some 16) (some (16 + 8)) none = [.int (X 16), .int (X 17), .int (X 18), .int (X 19), .int (X 20), .int (X 21), .int (X 22), .int (X 23)] := by kernel_rfl
theorem pk3 {X : Nat → Int} : vPick (blk 64 X) (some 24) (some (24 + 8)) none = [.int (X 24), .int (X 25), .int (X 26), .int (X 27), .int (X 28), .int (X 29), .int (X 30), .int (X 31)] := by kernel_rfl
theorem pk4 {X : Nat → Int} : vPick (blk 64 X) (some 32) (some (32 + 8)) none = [.int (X 32), .int (X 33), .int (X 34), .int (X 35), .int (X 36), .int (X 37), .int (X 38), .int (X 39)] := by kernel_rfl
theorem pk5 {X : Nat → Int} : vPick (blk 64 X) (some 40) (some (40 + 8)) none = [.int (X 40), .int (X 41), .int (X 42), .int (X 43), .int (X 44), .int (X 45), .int (X 46), .int (X 47)] := by kernel_rfl
theorem pk6 {X : Nat → Int} : vPick (blk 64 X) (some 48) (some (48 + 8)) none = [.int (X 48), .int (X 49), .int (X 50), .int (X 51), .int (X 52), .int (X 53), .int (X 54), .int (X 55)] := by kernel_rfl
theorem pk7 {X : Nat → Int} : vPick (blk 64 X) (some 56) (some (56 + 8)) none = [.int (X 56), .int (X 57), .int (X 58), .int (X 59), .int (X 60), .int (X 61), .int (X 62), .int (X 63)] := by kernel_rfl
theorem ix0 {X : Nat → Int} {st : St} : vItem (.lst (blk 16 X)) (.int 0) st = some (.int (X 0)) := by kernel_rfl
theorem ix1 {X : Nat → Int} {st : St} : vItem (.lst (blk 16 X)) (.int (0 + 1)) st = some (.int (X 1)) := by kernel_rfl
theorem ix2 {X : Nat → Int} {st : St} : vItem (.lst (blk 16 X)) (.int (0 + 2)) st = some (.int (X 2)) := by kernel_rfl
theorem ix3 {X : Nat → Int} {st : St} : vItem (.lst (blk 16 X)) (.int (0 + 3)) st = some (.int (X 3)) := by kernel_rfl
theorem ix4 {X : Nat → Int} {st : St} : vItem (.lst (blk 16 X)) (.int 4) st = some (.int (X 4)) := by kernel_rfl
theorem ix5 {X : Nat → Int} {st : St} : vItem (.lst (blk 16 X)) (.int (4 + 1)) st = some (.int (X 5)) := by kernel_rfl
theorem ix6 {X : Nat → Int} {st : St} : vItem (.lst (blk 16 X)) (.int (4 + 2)) st = some (.int (X 6)) := by kernel_rfl
theorem ix7 {X : Nat → Int} {st : St} : vItem (.lst (blk 16 X)) (.int (4 + 3)) st = some (.int (X 7)) := by kernel_rfl
theorem ix8 {X : Nat → Int} {st : St} : vItem (.lst (blk 16 X)) (.int 8) st = some (.int (X 8)) := by kernel_rfl
theorem ix9 {X : Nat → Int} {st : St} : vItem (.lst (blk 16 X)) (.int (8 + 1)) st = some (.int (X 9)) := by kernel_rfl
theorem ix10 {X : Nat → Int} {st : St} : vItem (.lst (blk 16 X)) (.int (8 + 2)) st = some (.int (X 10)) := by kernel_rfl
theorem ix11 {X : Nat → Int} {st : St} : vItem (.lst (blk 16 X)) (.int (8 + 3)) st = some (.int (X 11)) := by kernel_rfl
theorem ix12 {X : Nat → Int} {st : St} : vItem (.lst (blk 16 X)) (.int 12) st = some (.int (X 12)) := by kernel_rfl
theorem ix13 {X : Nat → Int} {st : St} : vItem (.lst (blk 16 X)) (.int (12 + 1)) st = some (.int (X 13)) := by kernel_rfl
theorem ix14 {X : Nat → Int} {st : St} : vItem (.lst (blk 16 X)) (.int (12 + 2)) st = some (.int (X 14)) := by kernel_rfl
theorem ix15 {X : Nat → Int} {st : St} : vItem (.lst (blk 16 X)) (.int (12 + 3)) st = some (.int (X 15)) := by kernel_rfl
local macro_rules | `(tactic| top_raise0) => `(tactic| first
  | (with_reducible first | apply s_even | apply s_odd | exact it_8 | exact it_4 | apply s_row2 | (apply s_row1X; assumption))
  | ((with_reducible first | apply s_desc | apply b_rng3); decide)
  | ((with_reducible refine len_ok ?_); simp only [List.length_append, fwd_len, List.length_nil] <;> lia)
  | (with_reducible first | exact pk0 | exact pk1 | exact pk2 | exact pk3 | exact pk4 | exact pk5 | exact pk6 | exact pk7 | exact ix0 | exact ix1 | exact ix2 | exact ix3 | exact ix4 | exact ix5 | exact ix6 | exact ix7 | exact ix8 | exact ix9 | exact ix10 | exact ix11 | exact ix12 | exact ix13 | exact ix14 | exact ix15))
noncomputable def tr8 (X : Nat → Int) : Nat → Int := fun i => X (8 * (i % 8) + i / 8)
noncomputable def tr4 (X : Nat → Int) : Nat → Int := fun i => X (4 * (i % 4) + i / 4)
theorem s_turned8 (X : Nat → Int) (st : St) : d_turned [.lst (blk 64 X), .int 8] st = some (.lst (blk 64 (tr8 X)), st) := by kernel_rfl
theorem s_turned4 (X : Nat → Int) (st : St) : d_turned [.lst (blk 16 X), .int 4] st = some (.lst (blk 16 (tr4 X)), st) := by kernel_rfl
noncomputable def rowP (P : Int → Int) (k : Int) (X : Nat → Int) : Nat → Int := fun i => fwdC P k (X (8 * (i / 8))) (X (8 * (i / 8) + 1)) (X (8 * (i / 8) + 2)) (X (8 * (i / 8) + 3)) (X (8 * (i / 8) + 4)) (X (8 * (i / 8) + 5)) (X (8 * (i / 8) + 6)) (X (8 * (i / 8) + 7)) (i % 8)
theorem rows8 (P : Int → Int) (k : Int) (X : Nat → Int) : ([] ++ fwd P k (X 0) (X 1) (X 2) (X 3) (X 4) (X 5) (X 6) (X 7) ++ fwd P k (X 8) (X 9) (X 10) (X 11) (X 12) (X 13) (X 14) (X 15) ++ fwd P k (X 16) (X 17) (X 18) (X 19) (X 20) (X 21) (X 22) (X 23) ++ fwd P k (X 24) (X 25) (X 26) (X 27) (X 28) (X 29) (X 30) (X 31) ++ fwd P k (X 32) (X 33) (X 34) (X 35) (X 36) (X 37) (X 38) (X 39) ++ fwd P k (X 40) (X 41) (X 42) (X 43) (X 44) (X 45) (X 46) (X 47) ++ fwd P k (X 48) (X 49) (X 50) (X 51) (X 52) (X 53) (X 54) (X 55) ++ fwd P k (X 56) (X 57) (X 58) (X 59) (X 60) (X 61) (X 62) (X 63) : List V) = blk 64 (rowP P k X) := by kernel_rfl
theorem turned_rows (P : Int → Int) (k : Int) (X : Nat → Int) (st : St) : d_turned [.lst ([] ++ fwd P k (X 0) (X 1) (X 2) (X 3) (X 4) (X 5) (X 6) (X 7) ++ fwd P k (X 8) (X 9) (X 10) (X 11) (X 12) (X 13) (X 14) (X 15) ++ fwd P k (X 16) (X 17) (X 18) (X 19) (X 20) (X 21) (X 22) (X 23) ++ fwd P k (X 24) (X 25) (X 26) (X 27) (X 28) (X 29) (X 30) (X 31) ++ fwd P k (X 32) (X 33) (X 34) (X 35) (X 36) (X 37) (X 38) (X 39) ++ fwd P k (X 40) (X 41) (X 42) (X 43) (X 44) (X 45) (X 46) (X 47) ++ fwd P k (X 48) (X 49) (X 50) (X 51) (X 52) (X 53) (X 54) (X 55) ++ fwd P k (X 56) (X 57) (X 58) (X 59) (X 60) (X 61) (X 62) (X 63)), .int 8] st = some (.lst (blk 64 (tr8 (rowP P k X))), st) := by rw [rows8]; exact s_turned8 _ st
noncomputable def islow (X : Nat → Int) : Nat → Int := tr8 (rowP dn2 (13 + 2) (tr8 (rowP up2 (13 - 2) X)))
theorem s_islow (X : Nat → Int) (hX : ∀ i, Bd (X i)) (v : V) (st : St) : d_IslowDct_forward [v, .lst (blk 64 X)] st = some (.lst (blk 64 (islow X)), st) := by
  apply run_retE rfl
  unfold b_IslowDct_forward
  repeat top_raiseB0
  exact turned_rows _ _ X _
  repeat top_raiseB0
  exact turned_rows _ _ (tr8 (rowP up2 (13 - 2) X)) _
  all_goals rfl
end
section
theorem shl0 {X : Nat → Int} (hX : ∀ i, Bd (X i)) (a b c d : Nat) : oShl (.int (ev0 (X a) (X b) (X c) (X d))) (.int 2) = some (.int (up2 (ev0 (X a) (X b) (X c) (X d)))) := o_shl (by
  have := hX a; have := hX b; have := hX c; have := hX d; unfold ev0; lia)
theorem shl1 {X : Nat → Int} (hX : ∀ i, Bd (X i)) (a b c d : Nat) : oShl (.int (ev1 (X a) (X b) (X c) (X d))) (.int 2) = some (.int (up2 (ev1 (X a) (X b) (X c) (X d)))) := o_shl (by
  have := hX a; have := hX b; have := hX c; have := hX d; unfold ev1; lia)
noncomputable def quadC (P : Int → Int) (k : Int) (a b c d : Int) : Nat → Int
  | 0 => P (ev0 a b c d)
  | 1 => dsF (ev2 a b c d) k
  | 2 => P (ev1 a b c d)
  | _ => dsF (ev3 a b c d) k
noncomputable def rowQ (P : Int → Int) (k : Int) (X : Nat → Int) : Nat → Int := fun i => quadC P k (X (4 * (i / 4))) (X (4 * (i / 4) + 1)) (X (4 * (i / 4) + 2)) (X (4 * (i / 4) + 3)) (i % 4)
theorem turned_rows4 (P : Int → Int) (k : Int) (X : Nat → Int) (st : St) : d_turned [.lst ([] ++ [V.int (P (ev0 (X 0) (X 1) (X 2) (X 3))), V.int (dsF (ev2 (X 0) (X 1) (X 2) (X 3)) (k))] ++ [V.int (P (ev1 (X 0) (X 1) (X 2) (X 3))), V.int (dsF (ev3 (X 0) (X 1) (X 2) (X 3)) (k))] ++ [V.int (P (ev0 (X 4) (X 5) (X 6) (X 7))), V.int (dsF (ev2 (X 4) (X 5) (X 6) (X 7)) (k))] ++ [V.int (P (ev1 (X 4) (X 5) (X 6) (X 7))), V.int (dsF (ev3 (X 4) (X 5) (X 6) (X 7)) (k))] ++ [V.int (P (ev0 (X 8) (X 9) (X 10) (X 11))), V.int (dsF (ev2 (X 8) (X 9) (X 10) (X 11)) (k))] ++ [V.int (P (ev1 (X 8) (X 9) (X 10) (X 11))), V.int (dsF (ev3 (X 8) (X 9) (X 10) (X 11)) (k))] ++ [V.int (P (ev0 (X 12) (X 13) (X 14) (X 15))), V.int (dsF (ev2 (X 12) (X 13) (X 14) (X 15)) (k))] ++ [V.int (P (ev1 (X 12) (X 13) (X 14) (X 15))), V.int (dsF (ev3 (X 12) (X 13) (X 14) (X 15)) (k))]), .int 4] st = some (.lst (blk 16 (tr4 (rowQ P k X))), st) := by
  show d_turned [.lst (blk 16 (rowQ P k X)), .int 4] st = _
  exact s_turned4 _ st
noncomputable def dn1 (z : Int) : Int := dsF z (2 - 1)
noncomputable def four (X : Nat → Int) : Nat → Int := tr4 (rowQ dn1 (13 + 2 - 1) (tr4 (rowQ up2 (13 - 2) X)))
local macro_rules | `(tactic| top_raise0) => `(tactic| first
  | (with_reducible first | apply s_even | exact it_4 | (apply shl0; assumption) | (apply shl1; assumption) | exact ix0 | exact ix1 | exact ix2 | exact ix3 | exact ix4 | exact ix5 | exact ix6 | exact ix7 | exact ix8 | exact ix9 | exact ix10 | exact ix11 | exact ix12 | exact ix13 | exact ix14 | exact ix15)
  | ((with_reducible first | apply s_desc | apply b_rng3); decide))
theorem s_four (X : Nat → Int) (hX : ∀ i, Bd (X i)) (v : V) (st : St) : d_FourDct_forward [v, .lst (blk 16 X)] st = some (.lst (blk 16 (four X)), st) := by
  apply run_retE rfl
  unfold b_FourDct_forward
  repeat top_raiseB0
  exact turned_rows4 up2 (13 - 2) X _
  repeat top_raiseB0
  exact turned_rows4 (fun z => dsF z (2 - 1)) (13 + 2 - 1) (tr4 (rowQ up2 (13 - 2) X)) _
  all_goals rfl
theorem s_sums (a b c d : Int) (v : V) (st : St) : d_TwoDct_sums [v, .lst [.int a, .int b, .int c, .int d]] st = some (.lst [.int (a + b + c + d), .int (a - b + c - d), .int (a + b - c - d), .int (a - b - c + d)], st) := by
  apply run_retE rfl
  unfold b_TwoDct_sums
  repeat top_raiseB0
  all_goals rfl
local macro_rules | `(tactic| top_raise0) => `(tactic| with_reducible apply s_sums)
theorem s_two (a b c d : Int) (st : St) : d_TwoDct_forward [.obj 512 [], .lst [.int a, .int b, .int c, .int d]] st = some (.lst [.int ((a + b + c + d) * 4), .int ((a - b + c - d) * 4), .int ((a + b - c - d) * 4), .int ((a - b - c + d) * 4)], st) := by
  apply run_retE rfl
  unfold b_TwoDct_forward
  repeat top_raiseB0
  all_goals rfl
theorem s_one (a : Int) (v : V) (st : St) : d_OneDct_forward [v, .lst [.int a]] st = some (.lst [.int (a * 8)], st) := by
  apply run_retE rfl
  unfold b_OneDct_forward
  repeat top_raiseB0
  all_goals rfl
theorem s_pick8 (st : St) : d_picked_transform [.int 8] st = some (.obj 455 [], st) := by kernel_rfl
theorem s_pick4 (st : St) : d_picked_transform [.int 4] st = some (.obj 481 [], st) := by kernel_rfl
theorem s_pick2 (st : St) : d_picked_transform [.int 2] st = some (.obj 512 [], st) := by kernel_rfl
theorem s_pick1 (st : St) : d_picked_transform [.int 1] st = some (.obj 540 [], st) := by kernel_rfl
local macro_rules | `(tactic| top_raise0) => `(tactic| with_reducible first | apply s_pick8 | apply s_pick4 | apply s_pick2 | apply s_pick1 | (apply s_islow; assumption) | (apply s_four; assumption) | apply s_two | apply s_one)
theorem s_fwd8 (X : Nat → Int) (hX : ∀ i, Bd (X i)) (st : St) : d_forward [.lst (blk 64 X), .int 8] st = some (.lst (blk 64 (islow X)), st) := by
  apply run_retE rfl
  unfold b_forward
  repeat top_raiseB0
  all_goals rfl
theorem s_fwd4 (X : Nat → Int) (hX : ∀ i, Bd (X i)) (st : St) : d_forward [.lst (blk 16 X), .int 4] st = some (.lst (blk 16 (four X)), st) := by
  apply run_retE rfl
  unfold b_forward
  repeat top_raiseB0
  all_goals rfl
theorem s_fwd2 (a b c d : Int) (st : St) : d_forward [.lst [.int a, .int b, .int c, .int d], .int 2] st = some (.lst [.int ((a + b + c + d) * 4), .int ((a - b + c - d) * 4), .int ((a + b - c - d) * 4), .int ((a - b - c + d) * 4)], st) := by
  apply run_retE rfl
  unfold b_forward
  repeat top_raiseB0
  all_goals rfl
theorem s_fwd1 (a : Int) (st : St) : d_forward [.lst [.int a], .int 1] st = some (.lst [.int (a * 8)], st) := by
  apply run_retE rfl
  unfold b_forward
  repeat top_raiseB0
  all_goals rfl
noncomputable def nn (l : List Int) : List Nat := l.map Int.toNat
theorem s_torow8 (X : Nat → Int) (st : St) : d_to_row [.lst (blk 64 X), .int 8] st = some (.lst ((zzs8.map fun i => X i.toNat).map .int), st) := by kernel_rfl
theorem s_torow4 (X : Nat → Int) (st : St) : d_to_row [.lst (blk 16 X), .int 4] st = some (.lst ((zzs4.map fun i => X i.toNat).map .int), st) := by kernel_rfl
theorem s_torow2 (a b c d : V) (st : St) : d_to_row [.lst [a, b, c, d], .int 2] st = some (.lst [a, b, c, d], st) := by kernel_rfl
theorem s_torow1 (a : V) (st : St) : d_to_row [.lst [a], .int 1] st = some (.lst [a], st) := by kernel_rfl
end
section
theorem dn2_eq (z : Int) : dn2 z = (z + 2) / 4 := by
  show (z + 1 * 2 ^ (2 - 1 : Int).toNat).fdiv (2 ^ (2 : Int).toNat) = _
  rw [Int.fdiv_eq_ediv_of_nonneg _ (by decide)]; rfl
theorem dn1_eq (z : Int) : dn1 z = (z + 1) / 2 := by
  show (z + 1 * 2 ^ (2 - 1 - 1 : Int).toNat).fdiv (2 ^ (2 - 1 : Int).toNat) = _
  rw [Int.fdiv_eq_ediv_of_nonneg _ (by decide)]; rfl
theorem up2_eq (z : Int) : up2 z = z * 4 := rfl
theorem ds0_11 : dsF 0 (13 - 2) = 0 := by decide +kernel
theorem ds0_15 : dsF 0 (13 + 2) = 0 := by decide +kernel
theorem ds0_14 : dsF 0 (13 + 2 - 1) = 0 := by decide +kernel
theorem ev0_row (a b c d e f g h : Int) : ev0 (a + h) (b + g) (c + f) (d + e) = a + (b + (c + (d + (e + (f + (g + h)))))) := by unfold ev0; lia
theorem ev0_quad (a b c d : Int) : ev0 a b c d = a + (b + (c + d)) := by unfold ev0; lia
theorem eight (a b c d e f g h : Int) : (a * 4 + (b * 4 + (c * 4 + (d * 4 + (e * 4 + (f * 4 + (g * 4 + h * 4)))))) + 2) / 4 = a + (b + (c + (d + (e + (f + (g + h)))))) := by lia
theorem quad (a b c d : Int) : (a * 4 + (b * 4 + (c * 4 + d * 4)) + 1) / 2 = 2 * (a + (b + (c + d))) := by lia
theorem sum64 (X : Nat → Int) : islow X 0 = ((List.range 64).map X).sum := by
  show dn2 (ev0 (up2 (ev0 _ _ _ _) + up2 (ev0 _ _ _ _)) (up2 (ev0 _ _ _ _) + up2 (ev0 _ _ _ _)) (up2 (ev0 _ _ _ _) + up2 (ev0 _ _ _ _)) (up2 (ev0 _ _ _ _) + up2 (ev0 _ _ _ _))) = _
  rw [dn2_eq, ev0_row]
  simp only [up2_eq]
  rw [eight]
  simp only [ev0_row]
  simp only [Int.add_assoc]
  show _ = X 0 + (X 1 + (X 2 + (X 3 + (X 4 + (X 5 + (X 6 + (X 7 + (X 8 + (X 9 + (X 10 + (X 11 + (X 12 + (X 13 + (X 14 + (X 15 + (X 16 + (X 17 + (X 18 + (X 19 + (X 20 + (X 21 + (X 22 + (X 23 + (X 24 + (X 25 + (X 26 + (X 27 + (X 28 + (X 29 + (X 30 + (X 31 + (X 32 + (X 33 + (X 34 + (X 35 + (X 36 + (X 37 + (X 38 + (X 39 + (X 40 + (X 41 + (X 42 + (X 43 + (X 44 + (X 45 + (X 46 + (X 47 + (X 48 + (X 49 + (X 50 + (X 51 + (X 52 + (X 53 + (X 54 + (X 55 + (X 56 + (X 57 + (X 58 + (X 59 + (X 60 + (X 61 + (X 62 + (X 63 + 0)))))))))))))))))))))))))))))))))))))))))))))))))))))))))))))))
  rw [Int.add_zero]
theorem sum16 (X : Nat → Int) : four X 0 = 2 * ((List.range 16).map X).sum := by
  show dn1 (ev0 (up2 (ev0 _ _ _ _)) (up2 (ev0 _ _ _ _)) (up2 (ev0 _ _ _ _)) (up2 (ev0 _ _ _ _))) = _
  rw [dn1_eq, ev0_quad]
  simp only [up2_eq]
  rw [quad]
  simp only [ev0_quad]
  simp only [Int.add_assoc]
  show _ = 2 * (X 0 + (X 1 + (X 2 + (X 3 + (X 4 + (X 5 + (X 6 + (X 7 + (X 8 + (X 9 + (X 10 + (X 11 + (X 12 + (X 13 + (X 14 + (X 15 + 0))))))))))))))))
  rw [Int.add_zero]
/-- a row of one number -/
theorem fwdC_one {P : Int → Int} {k : Int} (hk : dsF 0 k = 0) (hP : P 0 = 0) (v : Int) (c : Nat) : fwdC P k v v v v v v v v c = if c = 0 then P (8 * v) else 0 := by
  have e0 : ev0 (v + v) (v + v) (v + v) (v + v) = 8 * v := by unfold ev0; lia
  have e1 : ev1 (v + v) (v + v) (v + v) (v + v) = 0 := by unfold ev1; lia
  have e2 : ev2 (v + v) (v + v) (v + v) (v + v) = 0 := by unfold ev2; lia
  have e3 : ev3 (v + v) (v + v) (v + v) (v + v) = 0 := by unfold ev3; lia
  have z : v - v = 0 := by lia
  have o0 : od0 0 0 0 0 = 0 := by decide
  have o1 : od1 0 0 0 0 = 0 := by decide
  have o2 : od2 0 0 0 0 = 0 := by decide
  have o3 : od3 0 0 0 0 = 0 := by decide
  unfold fwdC
  rw [e0, e1, e2, e3, z, o0, o1, o2, o3, hk, hP]
  split <;> simp_all
theorem one64 {v : Int} {i : Nat} (h : i < 64) (h0 : i ≠ 0) : islow (fun _ => v) i = 0 := by
  have a : ∀ j, rowP up2 (13 - 2) (fun _ => v) j = if j % 8 = 0 then up2 (8 * v) else 0 := fun j => fwdC_one ds0_11 rfl v (j % 8)
  have b : ∀ r, r < 8 → ∀ j, j < 8 → tr8 (rowP up2 (13 - 2) (fun _ => v)) (8 * r + j) = if r = 0 then up2 (8 * v) else 0 := fun r hr j hj => by
    unfold tr8; rw [a]
    have h1 : (8 * r + j) % 8 = j := by lia
    have h2 : (8 * r + j) / 8 = r := by lia
    have h3 : (8 * j + r) % 8 = r := by lia
    rw [h1, h2, h3]
  have b0 : ∀ r, r < 8 → tr8 (rowP up2 (13 - 2) (fun _ => v)) (8 * r) = if r = 0 then up2 (8 * v) else 0 := fun r hr => b r hr 0 (by lia)
  have c : ∀ j, j < 64 → j ≠ 0 → rowP dn2 (13 + 2) (tr8 (rowP up2 (13 - 2) (fun _ => v))) j = 0 := fun j hj hz => by
    have hr : j / 8 < 8 := by lia
    unfold rowP
    have e := fun i hi => b (j / 8) hr i hi
    unfold rowP at e
    have e0 := b0 (j / 8) hr
    unfold rowP at e0
    rw [e0, e 1 (by lia), e 2 (by lia), e 3 (by lia), e 4 (by lia), e 5 (by lia), e 6 (by lia), e 7 (by lia), fwdC_one ds0_15 (by rw [dn2_eq]; decide)]
    split
    · rw [if_neg (by lia), dn2_eq]; decide
    · rfl
  unfold islow
  show rowP dn2 (13 + 2) (tr8 (rowP up2 (13 - 2) (fun _ => v))) (8 * (i % 8) + i / 8) = 0
  exact c _ (by lia) (by lia)
theorem quadC_one {P : Int → Int} {k : Int} (hk : dsF 0 k = 0) (hP : P 0 = 0) (v : Int) (c : Nat) : quadC P k v v v v c = if c = 0 then P (4 * v) else 0 := by
  have e0 : ev0 v v v v = 4 * v := by unfold ev0; lia
  have e1 : ev1 v v v v = 0 := by unfold ev1; lia
  have e2 : ev2 v v v v = 0 := by unfold ev2; lia
  have e3 : ev3 v v v v = 0 := by unfold ev3; lia
  unfold quadC
  rw [e0, e1, e2, e3, hk, hP]
  split <;> simp_all
theorem one16 {v : Int} {i : Nat} (h : i < 16) (h0 : i ≠ 0) : four (fun _ => v) i = 0 := by
  have a : ∀ j, rowQ up2 (13 - 2) (fun _ => v) j = if j % 4 = 0 then up2 (4 * v) else 0 := fun j => quadC_one ds0_11 rfl v (j % 4)
  have b : ∀ r, r < 4 → ∀ j, j < 4 → tr4 (rowQ up2 (13 - 2) (fun _ => v)) (4 * r + j) = if r = 0 then up2 (4 * v) else 0 := fun r hr j hj => by
    unfold tr4; rw [a]
    have h1 : (4 * r + j) % 4 = j := by lia
    have h2 : (4 * r + j) / 4 = r := by lia
    have h3 : (4 * j + r) % 4 = r := by lia
    rw [h1, h2, h3]
  have b0 : ∀ r, r < 4 → tr4 (rowQ up2 (13 - 2) (fun _ => v)) (4 * r) = if r = 0 then up2 (4 * v) else 0 := fun r hr => b r hr 0 (by lia)
  have c : ∀ j, j < 16 → j ≠ 0 → rowQ dn1 (13 + 2 - 1) (tr4 (rowQ up2 (13 - 2) (fun _ => v))) j = 0 := fun j hj hz => by
    have hr : j / 4 < 4 := by lia
    unfold rowQ
    have e := fun i hi => b (j / 4) hr i hi
    unfold rowQ at e
    have e0 := b0 (j / 4) hr
    unfold rowQ at e0
    rw [e0, e 1 (by lia), e 2 (by lia), e 3 (by lia), quadC_one ds0_14 (by rw [dn1_eq]; decide)]
    split
    · rw [if_neg (by lia), dn1_eq]; decide
    · rfl
  unfold four
  show rowQ dn1 (13 + 2 - 1) (tr4 (rowQ up2 (13 - 2) (fun _ => v))) (4 * (i % 4) + i / 4) = 0
  exact c _ (by lia) (by lia)
/-! rounding -/
noncomputable def rq (c q : Int) : Int := if c < 0 then -((2 * (c.natAbs : Int) + q * 8).fdiv (2 * (q * 8))) else (2 * (c.natAbs : Int) + q * 8).fdiv (2 * (q * 8))
noncomputable def lr (t d : Int) : Int := if t > 0 then (2 * (t.natAbs : Int) + d).fdiv (2 * d) else 0 - (2 * (t.natAbs : Int) + d).fdiv (2 * d)
theorem rq_zero {q : Int} (h : 0 < q) : rq 0 q = 0 := by
  unfold rq
  rw [if_neg (by decide), Int.fdiv_eq_ediv_of_nonneg _ (by lia)]
  exact Int.ediv_eq_zero_of_lt (by simp; lia) (by simp; lia)
/-- m times as large, one rounding -/
theorem rq_lr {c t q m n : Int} (hm : 0 < m) (hq : 0 < q) (hc : c = t * m) (hn : n * m = 8) : rq c q = lr t (n * q) := by
  have hn0 : 0 < n := by
    rcases Int.lt_or_le 0 n with h | h
    · exact h
    · have := Int.mul_nonpos_of_nonpos_of_nonneg h (Int.le_of_lt hm); lia
  have nq : 0 < n * q := Int.mul_pos hn0 hq
  have ab : (c.natAbs : Int) = m * (t.natAbs : Int) := by
    rw [hc, Int.natAbs_mul, Int.natCast_mul, Int.natAbs_of_nonneg (Int.le_of_lt hm), Int.mul_comm]
  have key : (2 * (c.natAbs : Int) + q * 8).fdiv (2 * (q * 8)) = (2 * (t.natAbs : Int) + n * q).fdiv (2 * (n * q)) := by
    have e1 : 2 * (c.natAbs : Int) + q * 8 = m * (2 * (t.natAbs : Int) + n * q) := by
      rw [ab, ← hn, Int.mul_add]; congr 1 <;> ac_rfl
    have e2 : 2 * (q * 8) = m * (2 * (n * q)) := by
      rw [← hn]; ac_rfl
    rw [e1, e2]
    exact Int.mul_fdiv_mul_of_pos _ _ hm
  unfold rq lr
  rw [key]
  rcases Int.lt_trichotomy t 0 with h | h | h
  · have : c < 0 := by rw [hc]; exact Int.mul_neg_of_neg_of_pos h hm
    rw [if_pos this, if_neg (by lia)]; lia
  · subst h
    rw [if_neg (by rw [hc]; simp), if_neg (by decide)]
    have : (2 * ((0 : Int).natAbs : Int) + n * q).fdiv (2 * (n * q)) = 0 := by
      rw [Int.fdiv_eq_ediv_of_nonneg _ (by lia)]
      exact Int.ediv_eq_zero_of_lt (by simp; lia) (by simp; lia)
    rw [this]; decide
  · have : 0 < c := by rw [hc]; exact Int.mul_pos h hm
    rw [if_neg (by lia), if_pos h]
end
section
theorem it_map {cs : List Int} {j : Nat} {c : Int} {st : St} (h : cs[j]? = some c) (hj : j < 1000000) : vItem (.lst (cs.map V.int)) (.int (j : Int)) st = some (.int c) :=
  at_nat (by rw [List.getElem?_map, h]; rfl) hj
theorem it_mapT {cs : List Int} {j : Nat} {c : Int} {st : St} (h : cs[j]? = some c) (hj : j < 1000000) : vItem (.tup (cs.map V.int)) (.int (j : Int)) st = some (.int c) :=
  at_nat (by rw [List.getElem?_map, h]; rfl) hj
theorem it_range {n : Nat} {g : Nat → V} {k : Int} {j : Nat} {st : St} (e : k = (j : Int)) (h : j < n) (hj : j < 1000000) : vItem (.lst ((List.range n).map g)) (.int k) st = some (g j) := by
  subst e
  exact at_nat (by rw [List.getElem?_map, List.getElem?_range h]; rfl) hj
theorem exI {P : Rho → St → Prop} {b : SDen} {ρ ρ' : Rho} {st st' : St} (h : b ρ st = some (.next, ρ', st')) (k : P ρ' st') : ∃ ρ' st', b ρ st = some (.next, ρ', st') ∧ P ρ' st' := ⟨ρ', st', h, k⟩
theorem take_snoc {α : Type} {l : List α} {k : Nat} {a : α} (h : l[k]? = some a) : l.take (k + 1) = l.take k ++ [a] := by
  rw [List.take_add_one, h]; rfl
noncomputable abbrev Qs (qs : List Int) : Prop := ∀ q ∈ qs, 1 ≤ q ∧ q ≤ 65535
theorem p_quantise {cs qs : List Int} (hl : cs.length ≤ qs.length) (hn : cs.length ≤ 1000) (hq : Qs qs) (st : St) :
    d_quantise [.lst (cs.map V.int), .tup (qs.map V.int), .int 8] st = some (.lst ((List.zipWith rq cs qs).map V.int), st) := by
  obtain ⟨ρ', st', e, i1, i2, i3, i4, i5⟩ := sLoop_range0 (x := "place") (n := cs.length) (st := st)
    (ρ := (bindR ["row", "qtable", "scale"] ([V.lst (cs.map V.int), V.tup (qs.map V.int), V.int 8] ++ [])).set "found" (.own []))
    (I := fun k ρ s => s = st ∧ ρ "row" = some (.lst (cs.map V.int)) ∧ ρ "qtable" = some (.tup (qs.map V.int)) ∧ ρ "scale" = some (.int 8) ∧ ρ "found" = some (.own (((List.zipWith rq cs qs).take k).map V.int)))
    (b := (sSeq (sAsg "number" (dItem (dLoc "row") (dLoc "place"))) (sSeq (sAsg "divisor" (dBin oMul (dItem (dLoc "qtable") (dLoc "place")) (dLoc "scale"))) (sSeq (sAsg "many" (dBin oDiv (dBin oAdd (dBin oMul (dVal (.int 2)) (dBlt bAbs (dCons (dLoc "number") (dNil)))) (dLoc "divisor")) (dBin oMul (dVal (.int 2)) (dLoc "divisor")))) (sSeq (sPush "found" (dIf (dTest (dBin oLt (dLoc "number") (dVal (.int 0)))) (dUn oNeg (dLoc "many")) (dLoc "many"))) (sNil))))))
    ⟨rfl, by top_caughtB, by top_caughtB, by top_caughtB, l_same⟩ (by
      rintro j ρ s hj ⟨rfl, h1, h2, h3, h4⟩
      have hc : cs[j]? = some cs[j] := List.getElem?_eq_getElem hj
      have hq' : qs[j]? = some qs[j] := List.getElem?_eq_getElem (by lia)
      obtain ⟨q1, q2⟩ := hq qs[j] (List.getElem_mem _)
      have hz : (List.zipWith rq cs qs)[j]? = some (rq cs[j] qs[j]) := by rw [List.getElem?_zipWith, hc, hq']
      have a1 := it_map (st := s) hc (by lia)
      have a2 := it_mapT (st := s) hq' (by lia)
      generalize cs[j] = c at *
      generalize qs[j] = q at *
      have hL : (((List.zipWith rq cs qs).take j).map V.int).length ≤ 1000000 := by simp; lia
      have ht := take_snoc hz
      by_cases hc0 : c < 0
      · apply exI
        · repeat top_raiseB0
        refine ⟨rfl, by top_caughtB, by top_caughtB, by top_caughtB, l_same.trans ?_⟩
        rw [ht, List.map_append]
        unfold rq; rw [if_pos hc0]; rfl
      · apply exI
        · repeat top_raiseB0
        refine ⟨rfl, by top_caughtB, by top_caughtB, by top_caughtB, l_same.trans ?_⟩
        rw [ht, List.map_append]
        unfold rq; rw [if_neg hc0]; rfl)
  subst i1
  rw [List.take_of_length_le (by simp; lia)] at i5
  apply run_retE rfl
  unfold b_quantise
  have it := iter_rng0 (b := (cs.length : Int)) (n := cs.length) rfl (by lia)
  repeat top_raiseB0
  all_goals rfl
end
section
theorem s_kept {p s : Int} {P S : Nat} (hp : p = P) (hs : s = S) (h1 : 1 ≤ S) (st : St) : d_kept_in [.int p, .int s] st = some (.int ((min P (S - 1) : Nat) : Int), st) := by
  subst hp; subst hs
  by_cases h : P < S
  · apply run_retE rfl
    · unfold b_kept_in
      repeat top_raiseB0
    · congr 1; lia
    · rfl
  · apply run_retE rfl
    · unfold b_kept_in
      repeat top_raiseB0
    · congr 1; lia
    · rfl
/-- the plane's rows -/
noncomputable abbrev rowV (w : Nat) (R : Nat → Nat → Int) (y : Nat) : V := .lst ((List.range w).map fun (x : Nat) => V.int (R y x))
noncomputable abbrev rowsV (h w : Nat) (R : Nat → Nat → Int) : V := .lst ((List.range h).map fun (y : Nat) => rowV w R y)
noncomputable abbrev planeV (h w : Nat) (R : Nat → Nat → Int) : V := .obj 737 [("width", .int (w : Int)), ("height", .int (h : Int)), ("rows", rowsV h w R)]
theorem s_at {h w : Nat} {R : Nat → Nat → Int} {a b : Int} {A B : Nat} (ha : a = A) (hb : b = B) (hh : 1 ≤ h) (hw : 1 ≤ w) (hh' : h ≤ 1000) (hw' : w ≤ 1000) (st : St) :
    d_Plane_at [planeV h w R, .int a, .int b] st = some (.int (R (min B (h - 1)) (min A (w - 1))), st) := by
  have k1 := s_kept ha (rfl : (w : Int) = w) hw st
  have k2 := s_kept hb (rfl : (h : Int) = h) hh st
  have i1 := it_range (n := h) (g := fun (y : Nat) => rowV w R y) (k := ((min B (h - 1) : Nat) : Int)) (st := st) rfl (by lia) (by lia)
  have i2 := it_range (n := w) (g := fun (x : Nat) => V.int (R (min B (h - 1)) x)) (k := ((min A (w - 1) : Nat) : Int)) (st := st) rfl (by lia) (by lia)
  apply run_retE rfl
  · unfold b_Plane_at
    repeat top_raiseB0
  all_goals rfl
/-- a block's samples -/
noncomputable def pix (h w : Nat) (R : Nat → Nat → Int) (m : Int) (n x y i j : Nat) : Int := R (min (y * n + i) (h - 1)) (min (x * n + j) (w - 1)) - m
noncomputable def linesV (h w : Nat) (R : Nat → Nat → Int) (m : Int) (n x y k : Nat) : List V := ((List.range k).map fun (i : Nat) => (List.range n).map fun (j : Nat) => V.int (pix h w R m n x y i j)).flatten
theorem lines_succ {h w : Nat} {R : Nat → Nat → Int} {m : Int} {n x y k : Nat} : linesV h w R m n x y (k + 1) = linesV h w R m n x y k ++ (List.range n).map fun (j : Nat) => V.int (pix h w R m n x y k j) := by
  unfold linesV
  rw [List.range_succ, List.map_append, List.flatten_append]; simp
theorem lines_len {h w : Nat} {R : Nat → Nat → Int} {m : Int} {n x y k : Nat} : (linesV h w R m n x y k).length = k * n := by
  induction k with
  | zero => simp [linesV]
  | succ k ih => rw [lines_succ, List.length_append, ih, List.length_map, List.length_range, Nat.succ_mul]
section
variable {h w : Nat} {R : Nat → Nat → Int} {m : Int} {n x y : Nat}
theorem p_block_of (hh : 1 ≤ h) (hw : 1 ≤ w) (hh' : h ≤ 1000) (hw' : w ≤ 1000) (hn : n ≤ 8) (hx : x ≤ 100) (hy : y ≤ 100) (st : St) :
    d_block_of [planeV h w R, .int x, .int y, .int n, .int m] st = some (.lst (linesV h w R m n x y n), st) := by
  have bx : x * n ≤ 800 := Nat.le_trans (Nat.mul_le_mul hx hn) (by lia)
  have by' : y * n ≤ 800 := Nat.le_trans (Nat.mul_le_mul hy hn) (by lia)
  have cx : (x : Int) * (n : Int) = ((x * n : Nat) : Int) := by simp
  have cy : (y : Int) * (n : Int) = ((y * n : Nat) : Int) := by simp
  have itx := iter_rng (a := (x : Int) * (n : Int)) (b := (x : Int) * (n : Int) + (n : Int)) (n := n) rfl (by lia) (by lia)
  have ity := iter_rng (a := (y : Int) * (n : Int)) (b := (y : Int) * (n : Int) + (n : Int)) (n := n) rfl (by lia) (by lia)
  obtain ⟨ρ', st', e, i1, i2, i3, i4, i5, i6⟩ := sLoop_range (x := "row") (a := (y : Int) * (n : Int)) (n := n) (st := st)
    (ρ := (bindR ["plane", "x", "y", "n", "centre"] ([planeV h w R, .int x, .int y, .int n, .int m] ++ [])).set "found" (.own []))
    (I := fun k ρ s => s = st ∧ ρ "plane" = some (planeV h w R) ∧ ρ "x" = some (.int x) ∧ ρ "n" = some (.int n) ∧ ρ "centre" = some (.int m) ∧ ρ "found" = some (.own (linesV h w R m n x y k)))
    (b := (sSeq (sExt "found" (dComp ["centre","plane","row"] "place" (dBlt bRange (dCons (dBin oMul (dLoc "x") (dLoc "n")) (dCons (dBin oAdd (dBin oMul (dLoc "x") (dLoc "n")) (dLoc "n")) (dNil)))) (dBin oSub (dMeth "at" (fun C => if C = 737 then some d_Plane_at else none) (dLoc "plane") (dCons (dLoc "place") (dCons (dLoc "row") (dNil)))) (dLoc "centre")))) (sNil)))
    ⟨rfl, by top_caughtB, by top_caughtB, by top_caughtB, by top_caughtB, l_same⟩ (by
      rintro i ρ s hi ⟨rfl, h1, h2, h3, h4, h5⟩
      have cl := cLoop_range (x := "place") (ρ := restrict ["centre","plane","row"] (ρ.set "row" (.int ((y : Int) * (n : Int) + (i : Int))))) (st := s) (n := n) (a := (x : Int) * (n : Int)) (g := fun (j : Nat) => V.int (pix h w R m n x y i j))
        (d := dBin oSub (dMeth "at" (fun C => if C = 737 then some d_Plane_at else none) (dLoc "plane") (dCons (dLoc "place") (dCons (dLoc "row") (dNil)))) (dLoc "centre")) (by
          intro j hj
          have e := s_at (R := R) (h := h) (w := w) (a := (x : Int) * (n : Int) + (j : Int)) (b := (y : Int) * (n : Int) + (i : Int)) (A := x * n + j) (B := y * n + i) (by simp) (by simp) hh hw hh' hw' s
          show _ = some (V.int (R (min (y * n + i) (h - 1)) (min (x * n + j) (w - 1)) - m), s)
          top_argsB)
      have hL : (linesV h w R m n x y i).length + ((List.range n).map fun (j : Nat) => V.int (pix h w R m n x y i j)).length ≤ 1000000 := by
        rw [lines_len, List.length_map, List.length_range]
        have := Nat.mul_le_mul (Nat.le_of_lt hi) (Nat.le_refl n)
        have := Nat.mul_le_mul hn hn
        lia
      apply exI
      · repeat top_raiseB0
      refine ⟨rfl, by top_caughtB, by top_caughtB, by top_caughtB, by top_caughtB, ?_⟩
      rw [lines_succ]; top_caughtB)
  subst i1
  apply run_retE rfl
  · unfold b_block_of
    repeat top_raiseB0
  all_goals rfl
theorem s_law_block (hh : 1 ≤ h) (hw : 1 ≤ w) (hh' : h ≤ 1000) (hw' : w ≤ 1000) (hn : n ≤ 8) (hx : x ≤ 100) (hy : y ≤ 100) (st : St) :
    d__law_block [rowsV h w R, .int x, .int y, .int n, .int m] st = some (.lst (linesV h w R m n x y n), st) := by
  have bx : x * n ≤ 800 := Nat.le_trans (Nat.mul_le_mul hx hn) (by lia)
  have by' : y * n ≤ 800 := Nat.le_trans (Nat.mul_le_mul hy hn) (by lia)
  have cx : (x : Int) * (n : Int) = ((x * n : Nat) : Int) := by simp
  have cy : (y : Int) * (n : Int) = ((y * n : Nat) : Int) := by simp
  have itx := iter_rng (a := (x : Int) * (n : Int)) (b := (x : Int) * (n : Int) + (n : Int)) (n := n) rfl (by lia) (by lia)
  have ity := iter_rng (a := (y : Int) * (n : Int)) (b := (y : Int) * (n : Int) + (n : Int)) (n := n) rfl (by lia) (by lia)
  obtain ⟨ρ', st', e, i1, i2, i3, i4, i5, i6⟩ := sLoop_range (x := "line") (a := (y : Int) * (n : Int)) (n := n) (st := st)
    (ρ := (bindR ["rows", "x", "y", "n", "middle"] ([rowsV h w R, .int x, .int y, .int n, .int m] ++ [])).set "found" (.lst []))
    (I := fun k ρ s => s = st ∧ ρ "rows" = some (rowsV h w R) ∧ ρ "x" = some (.int x) ∧ ρ "n" = some (.int n) ∧ ρ "middle" = some (.int m) ∧ ρ "found" = some (.lst (linesV h w R m n x y k)))
    (b := (sSeq (sAsg "row" (dItem (dLoc "rows") (dBlt bMin2 (dCons (dLoc "line") (dCons (dBin oSub (dBlt bLen (dCons (dLoc "rows") (dNil))) (dVal (.int 1))) (dNil)))))) (sSeq (sAsg "found" (dBin oCat (dLoc "found") (dComp ["middle","row"] "spot" (dBlt bRange (dCons (dBin oMul (dLoc "x") (dLoc "n")) (dCons (dBin oAdd (dBin oMul (dLoc "x") (dLoc "n")) (dLoc "n")) (dNil)))) (dBin oSub (dItem (dLoc "row") (dBlt bMin2 (dCons (dLoc "spot") (dCons (dBin oSub (dBlt bLen (dCons (dLoc "row") (dNil))) (dVal (.int 1))) (dNil))))) (dLoc "middle"))))) (sNil))))
    ⟨rfl, by top_caughtB, by top_caughtB, by top_caughtB, by top_caughtB, l_same⟩ (by
      rintro i ρ s hi ⟨rfl, h1, h2, h3, h4, h5⟩
      have i1 := it_range (n := h) (g := fun (y : Nat) => rowV w R y) (k := min ((y : Int) * (n : Int) + (i : Int)) ((h : Int) - 1)) (j := min (y * n + i) (h - 1)) (st := s) (by lia) (by lia) (by lia)
      have cl := cLoop_range (x := "spot") (ρ := restrict ["middle","row"] ((ρ.set "line" (.int ((y : Int) * (n : Int) + (i : Int)))).set "row" (rowV w R (min (y * n + i) (h - 1))))) (st := s) (n := n) (a := (x : Int) * (n : Int)) (g := fun (j : Nat) => V.int (pix h w R m n x y i j))
        (d := dBin oSub (dItem (dLoc "row") (dBlt bMin2 (dCons (dLoc "spot") (dCons (dBin oSub (dBlt bLen (dCons (dLoc "row") (dNil))) (dVal (.int 1))) (dNil))))) (dLoc "middle")) (by
          intro j hj
          have i2 := it_range (n := w) (g := fun (x : Nat) => V.int (R (min (y * n + i) (h - 1)) x)) (k := min ((x : Int) * (n : Int) + (j : Int)) ((w : Int) - 1)) (j := min (x * n + j) (w - 1)) (st := s) (by lia) (by lia) (by lia)
          show _ = some (V.int (R (min (y * n + i) (h - 1)) (min (x * n + j) (w - 1)) - m), s)
          top_argsB)
      have hL : (linesV h w R m n x y i).length + ((List.range n).map fun (j : Nat) => V.int (pix h w R m n x y i j)).length ≤ 1000000 := by
        rw [lines_len, List.length_map, List.length_range]
        have := Nat.mul_le_mul (Nat.le_of_lt hi) (Nat.le_refl n)
        have := Nat.mul_le_mul hn hn
        lia
      have oc : oCat (.lst (linesV h w R m n x y i)) (.lst ((List.range n).map fun (j : Nat) => V.int (pix h w R m n x y i j))) = some (.lst (linesV h w R m n x y i ++ (List.range n).map fun (j : Nat) => V.int (pix h w R m n x y i j))) := if_pos hL
      apply exI
      · repeat top_raiseB0
      refine ⟨rfl, by top_caughtB, by top_caughtB, by top_caughtB, by top_caughtB, ?_⟩
      rw [lines_succ]; top_caughtB)
  subst i1
  apply run_retE rfl
  · unfold b__law_block
    repeat top_raiseB0
  all_goals rfl
end
theorem s_rounded {t d : Int} (hd : 1 ≤ d ∧ d ≤ 536870000) (st : St) : d__law_rounded [.int t, .int d] st = some (.int (lr t d), st) := by
  by_cases h : t > 0
  · apply run_retE rfl
    · unfold b__law_rounded
      repeat top_raiseB0
    · unfold lr; rw [if_pos h]
    · rfl
  · apply run_retE rfl
    · unfold b__law_rounded
      repeat top_raiseB0
    · unfold lr; rw [if_neg h]
    · rfl
theorem s_sums1 (a : V) (st : St) : d__law_sums [.lst [a], .int 1] st = some (.lst [a], st) := by
  apply run_retE rfl
  · unfold b__law_sums
    repeat top_raiseB0
  all_goals rfl
theorem s_sums2 (a b c d : Int) (st : St) : d__law_sums [.lst [.int a, .int b, .int c, .int d], .int 2] st = some (.lst [.int (a + b + c + d), .int (a - b + c - d), .int (a + b - c - d), .int (a - b - c + d)], st) := by
  apply run_retE rfl
  · unfold b__law_sums
    repeat top_raiseB0
  all_goals rfl
end
section
structure Nice (d : PyData) (k : Nat) : Prop where
  lay : PyData.canLay0 d = true
  dep : d.depth ≤ k
  self : PyData.eqv d d = true
theorem Nice.int (i : Int) : Nice (.int i) 0 := ⟨by simp only [PyData.canLay0], by simp only [PyData.depth]; lia, by simp only [PyData.eqv, beq_self_eq_true]⟩
theorem nice_all {k : Nat} : ∀ {ds : List PyData}, (∀ d ∈ ds, Nice d k) → PyData.canLayAll0 ds = true ∧ PyData.depthAll ds ≤ k ∧ PyData.eqvAll ds ds = true
  | [], _ => ⟨by simp only [PyData.canLayAll0], by simp only [PyData.depthAll]; lia, by simp only [PyData.eqvAll]⟩
  | d :: ds, h => by
    obtain ⟨a, b, c⟩ := nice_all (ds := ds) fun e he => h e (List.mem_cons_of_mem _ he)
    obtain ⟨a', b', c'⟩ := h d List.mem_cons_self
    refine ⟨by simp only [PyData.canLayAll0, a, a', Bool.and_self], ?_, by simp only [PyData.eqvAll, c, c', Bool.and_self]⟩
    simp only [PyData.depthAll]; lia
theorem Nice.list {k : Nat} {ds : List PyData} (h : ∀ d ∈ ds, Nice d k) : Nice (.list ds) (k + 1) := by
  obtain ⟨a, b, c⟩ := nice_all h
  exact ⟨by simpa only [PyData.canLay0] using a, by simp only [PyData.depth]; lia, by simpa only [PyData.eqv] using c⟩
theorem Nice.tuple {k : Nat} {ds : List PyData} (h : ∀ d ∈ ds, Nice d k) : Nice (.tuple ds) (k + 1) := by
  obtain ⟨a, b, c⟩ := nice_all h
  exact ⟨by simpa only [PyData.canLay0] using a, by simp only [PyData.depth]; lia, by simpa only [PyData.eqv] using c⟩
theorem eqB_nice {v : V} {d : PyData} {k : Nat} (h : vData v = some d) (n : Nice d k) (hk : k ≤ 64) : eqB v v = some true := by
  have s : SeqAt.shaped d = true := by
    unfold SeqAt.shaped; rw [n.lay, decide_eq_true (Nat.le_trans n.dep hk)]; rfl
  simp only [eqB, h, Option.bind_some, s, Bool.and_self, if_true, n.self]
theorem vDatas_map {α : Type} {f : α → V} {g : α → PyData} : ∀ {l : List α}, (∀ a ∈ l, vData (f a) = some (g a)) → vDatas (l.map f) = some (l.map g)
  | [], _ => by simp only [List.map_nil, vDatas]
  | a :: l, h => by
    simp only [List.map_cons, vDatas, h a List.mem_cons_self, vDatas_map fun b hb => h b (List.mem_cons_of_mem _ hb), Option.bind_some, Option.map_some]
theorem vData_ints (ns : List Int) : vData (.lst (ns.map V.int)) = some (.list (ns.map PyData.int)) := by
  simp only [vData, vDatas_map (f := V.int) (g := PyData.int) fun a _ => by simp only [vData], Option.map_some]
theorem vData_intsT (ns : List Int) : vData (.tup (ns.map V.int)) = some (.tuple (ns.map PyData.int)) := by
  simp only [vData, vDatas_map (f := V.int) (g := PyData.int) fun a _ => by simp only [vData], Option.map_some]
theorem nice_ints (ns : List Int) : ∀ d ∈ ns.map PyData.int, Nice d 0 := fun d hd => by
  obtain ⟨i, _, rfl⟩ := List.mem_map.mp hd; exact .int i
theorem eqB_ints (ns : List Int) : eqB (.lst (ns.map V.int)) (.lst (ns.map V.int)) = some true := eqB_nice (vData_ints ns) (.list (nice_ints ns)) (by decide)
theorem eqB_intsT (ns : List Int) : eqB (.tup (ns.map V.int)) (.tup (ns.map V.int)) = some true := eqB_nice (vData_intsT ns) (.tuple (nice_ints ns)) (by decide)
theorem eqB_rows (l : List (List Int)) : eqB (.lst (l.map fun r => V.lst (r.map V.int))) (.lst (l.map fun r => V.lst (r.map V.int))) = some true :=
  eqB_nice (d := .list (l.map fun r => .list (r.map PyData.int))) (k := 2) (by
    simp only [vData, vDatas_map (f := fun (r : List Int) => V.lst (r.map V.int)) (g := fun (r : List Int) => PyData.list (r.map PyData.int)) fun a _ => vData_ints a, Option.map_some])
    (.list fun d hd => by obtain ⟨r, _, rfl⟩ := List.mem_map.mp hd; exact .list (nice_ints r)) (by decide)
theorem eq_ints (ns : List Int) : oEq (.lst (ns.map V.int)) (.lst (ns.map V.int)) = some (.bool true) := by rw [oEq, eqB_ints]; rfl
theorem ne_ints (ns : List Int) : oNe (.lst (ns.map V.int)) (.lst (ns.map V.int)) = some (.bool false) := by rw [oNe, eqB_ints]; rfl
theorem b_sumM {ns : List Int} (h : ∀ i ∈ ns, Bd i) (hl : ns.length ≤ 1000000) : bSum [.lst (ns.map V.int)] = some (.int ns.sum) := by
  have s : small40 ns = true := by
    unfold small40
    rw [Bool.and_eq_true]
    refine ⟨List.all_eq_true.mpr fun i hi => ?_, decide_eq_true hl⟩
    have := h i hi
    rw [Bool.and_eq_true, decide_eq_true_eq, decide_eq_true_eq]; lia
  simp only [bSum, vInts_map, Option.bind_some, s, if_true]
theorem b_maxM {ns : List Int} (h : ns ≠ []) : bMaxL [.lst (ns.map V.int)] = some (.int (maxL ns)) := by
  simp only [bMaxL, vInts_map, Option.bind_some, h, if_false]
theorem b_minM {ns : List Int} (h : ns ≠ []) : bMinL [.lst (ns.map V.int)] = some (.int (minL ns)) := by
  simp only [bMinL, vInts_map, Option.bind_some, h, if_false]
theorem one_value {ns : List Int} (h : ¬ minL ns < maxL ns) : ∀ i ∈ ns, ∀ j ∈ ns, i = j := by
  cases ns with
  | nil => intro i hi; cases hi
  | cons a r =>
    have hmax := maxF r a
    have hmin := minF r a
    simp only [minL, maxL] at h
    have key : ∀ x ∈ a :: r, r.foldl min a ≤ x ∧ x ≤ r.foldl max a := fun x hx => by
      rcases List.mem_cons.mp hx with rfl | hx
      · exact ⟨hmin.2.1, hmax.2.1⟩
      · exact ⟨hmin.2.2 x hx, hmax.2.2 x hx⟩
    intro i hi j hj
    have := key i hi
    have := key j hj
    lia
theorem v_compZ {ρ : Rho} {st st₁ st₂ : St} {free : List String} {x y : String} {a : Den (List V)} {d : Den V} {us vs ws : List V} (ha : a ρ st = some ([.lst us, .tup vs], st₁)) (hl : us.length ≤ vs.length) (hn : us.length ≤ 1000000)
    (h : zLoop x y d (us.zip vs) (restrict free ρ) st₁ = some (ws, st₂)) : dCompZ free x y a d ρ st = some (.lst ws, st₂) := by
  simp only [dCompZ, ha, Option.bind_some, hl, hn, and_self, if_true, h, Option.map_some]
theorem z_nil {ρ : Rho} {st : St} {x y : String} {d : Den V} {vs : List V} : zLoop x y d (List.zip [] vs) ρ st = some ([], st) := rfl
theorem z_cons {ρ : Rho} {st st₁ st₂ : St} {x y : String} {d : Den V} {u v w : V} {us vs ws : List V} (h : d ((ρ.set x u).set y v) st = some (w, st₁)) (h' : zLoop x y d (us.zip vs) ρ st₁ = some (ws, st₂)) :
    zLoop x y d (List.zip (u :: us) (v :: vs)) ρ st = some (w :: ws, st₂) := by
  simp only [List.zip_cons_cons, zLoop, h, h', Option.bind_some, Option.map_some]
theorem v_eor {ρ : Rho} {st st₁ st₂ : St} {a b : Den V} {c : Bool} {v : V} (h : dTest a ρ st = some (c, st₁)) (h' : (bif c then some (V.bool true, st₁) else b ρ st₁) = some (v, st₂)) :
    (fun ρ st => (dTest a ρ st).bind fun p => if p.1 then some (V.bool true, p.2) else b ρ p.2) ρ st = some (v, st₂) := by
  cases c <;> simpa [h] using h'
theorem pick_one {vs : List V} {N : Nat} (h : vs.length = N + 1) (hN : N = 15 ∨ N = 63) : vPick vs (some 1) none none = vs.drop 1 := by
  have e : sliceRange (sliceBounds (some 1) none none vs.length).1 (sliceBounds (some 1) none none vs.length).2.1 (sliceBounds (some 1) none none vs.length).2.2 = (List.range N).map (· + 1) := by
    rw [h]
    rcases hN with rfl | rfl <;> decide +kernel
  unfold vPick
  rw [e]
  have key : ∀ (M k : Nat), k + M ≤ vs.length → (List.range M).filterMap (fun i => vs[k + i]?) = (vs.drop k).take M := by
    intro M
    induction M with
    | zero => intro k _; simp
    | succ M ih =>
      intro k hk
      have hk' : k < vs.length := by lia
      rw [List.range_succ_eq_map, List.filterMap_cons, List.filterMap_map]
      simp only [Nat.add_zero, List.getElem?_eq_getElem hk']
      rw [List.drop_eq_getElem_cons hk', List.take_succ_cons]
      congr 1
      rw [← ih (k + 1) (by lia)]
      congr 1
      funext i
      simp only [Function.comp_apply]
      congr 1; lia
  rw [List.filterMap_map]
  have := key N 1 (by lia)
  rw [List.take_of_length_le (by simp; lia)] at this
  rw [← this]
  congr 1
  funext i
  simp only [Function.comp_apply, Nat.add_comm]
theorem times0 {k : Int} {N : Nat} (h : k = N) (hN : N ≤ 1000000) : oTimes (.lst [.int 0]) (.int k) = some (.lst ((List.replicate N (0 : Int)).map V.int)) := by
  subst h
  have : vTimes (.lst [.int 0]) (.int (N : Int)) = some (List.replicate N [V.int 0]).flatten := by
    simp only [vTimes, Int.toNat_natCast, List.length_cons, List.length_nil]
    rw [if_pos (by lia)]
  rw [oTimes, this]
  simp only [Option.map_some, List.map_replicate]
  congr 2
  clear this hN
  induction N with
  | zero => rfl
  | succ N ih => rw [List.replicate_succ, List.flatten_cons, ih, List.replicate_succ]; rfl
end
section
structure BlkOk (n : Int) (bl : List V) (qs ts : List Int) : Prop where
  len : ts.length ≤ 1000
  coded : ∀ st, ∃ f r, d_forward [.lst bl, .int n] st = some (.lst f, st) ∧ d_to_row [.lst f, .int n] st = some (.lst r, st) ∧ d_quantise [.lst r, .tup (qs.map V.int), .int 8] st = some (.lst (ts.map V.int), st)
  right : ∀ st, d__law_is_block [.lst (ts.map V.int), .lst bl, .tup (qs.map V.int), .int n] st = some (.bool true, st)
theorem right_big {n : Int} {N : Nat} (hnn : n * n = (N : Int) + 1) (hn : n = 4 ∧ N = 15 ∨ n = 8 ∧ N = 63) {ns ts qs : List Int} {q : Int} (l1 : ns.length = N + 1) (l2 : ts.length = N + 1) (hq0 : qs[0]? = some q) (hq : 1 ≤ q ∧ q ≤ 65535) (h0 : ts[0]? = some (lr ns.sum (n * q)))
    (hB : ∀ i ∈ ns, Bd i) (hc : (∀ i ∈ ns, ∀ j ∈ ns, i = j) → ts.drop 1 = List.replicate N 0) (st : St) :
    d__law_is_block [.lst (ts.map V.int), .lst (ns.map V.int), .tup (qs.map V.int), .int n] st = some (.bool true, st) := by
  have n1 : 4 ≤ n ∧ n ≤ 8 := by lia
  have ne : ns ≠ [] := by intro e; rw [e] at l1; simp at l1
  have bs := b_sumM hB (by lia)
  have bmi := b_minM ne
  have bma := b_maxM ne
  have a0 : vItem (.lst (ts.map V.int)) (.int 0) st = some (.int (lr ns.sum (n * q))) := it_map (j := 0) h0 (by decide)
  have a1 : vItem (.tup (qs.map V.int)) (.int 0) st = some (.int q) := it_mapT (j := 0) hq0 (by decide)
  have nq : 1 ≤ n * q ∧ n * q ≤ 536870000 := by
    rcases hn with ⟨rfl, _⟩ | ⟨rfl, _⟩ <;> lia
  have rd := s_rounded (t := ns.sum) nq st
  have ml : (n : Int).natAbs < 2 ^ 64 := by lia
  have om := o_mull (j := n) ml
  have om' := o_mull (j := q) ml
  by_cases hlt : minL ns < maxL ns
  · apply run_retE rfl
    · unfold b__law_is_block
      repeat top_raiseB0
      refine v_eor (c := decide (minL ns < maxL ns)) (st₁ := st) (st₂ := st) (v := .bool true) ?_ ?_
      · top_argsB
      · rw [decide_eq_true hlt]; rfl
    all_goals rfl
  · have hz := hc (one_value hlt)
    have sl : vPick (ts.map V.int) (some 1) none none = (List.replicate N (0 : Int)).map V.int := by
      rw [pick_one (N := N) (by simp [l2]) (by lia), ← List.map_drop, hz]
    have ot := times0 (k := n * n - 1) (N := N) (by lia) (by lia)
    have oe := eq_ints (List.replicate N (0 : Int))
    apply run_retE rfl
    · unfold b__law_is_block
      repeat top_raiseB0
      refine v_eor (c := decide (minL ns < maxL ns)) (st₁ := st) (st₂ := st) (v := .bool true) ?_ ?_
      · top_argsB
      · rw [decide_eq_false hlt]
        show dBin _ _ _ _ _ = _
        top_argsB
    all_goals rfl
/-! the four sides -/
theorem len_zip {cs qs : List Int} {N : Nat} (h : cs.length = N) (h' : qs.length = N) : (List.zipWith rq cs qs).length = N := by simp [h, h']
theorem zip_zero {cs qs : List Int} {N : Nat} (hq : Qs qs) (h : cs.length = N + 1) (h' : qs.length = N + 1) (hz : ∀ c ∈ cs.drop 1, c = 0) : (List.zipWith rq cs qs).drop 1 = List.replicate N 0 := by
  rw [List.eq_replicate_iff]
  refine ⟨by simp [h, h'], fun b hb => ?_⟩
  rw [List.drop_zipWith] at hb
  obtain ⟨i, hi, rfl⟩ := List.mem_iff_getElem.mp hb
  have hi2 : i < (qs.drop 1).length := by rw [List.length_zipWith] at hi; lia
  have hi1 : i < (cs.drop 1).length := by rw [List.length_zipWith] at hi; lia
  have q1 := (hq _ (List.mem_of_mem_drop (List.getElem_mem hi2))).1
  rw [List.getElem_zipWith, hz _ (List.getElem_mem hi1)]
  exact rq_zero (by lia)
theorem ok8 {X : Nat → Int} (hX : ∀ i, Bd (X i)) {qs : List Int} (l : qs.length = 64) (hq : Qs qs) : ∃ ts, BlkOk 8 (blk 64 X) qs ts := by
  have hq0 : qs[0]? = some qs[0] := List.getElem?_eq_getElem (by lia)
  have q0 := hq qs[0] (List.getElem_mem _)
  have cl : (zzs8.map fun i => islow X i.toNat).length = 64 := by rw [List.length_map]; rfl
  have A : ∀ st, d_forward [.lst (blk 64 X), .int 8] st = some (.lst (blk 64 (islow X)), st) := fun st => s_fwd8 X hX st
  have B : ∀ st, d_to_row [.lst (blk 64 (islow X)), .int 8] st = some (.lst ((zzs8.map fun i => islow X i.toNat).map V.int), st) := fun st => s_torow8 (islow X) st
  have C : ∀ st, d_quantise [.lst ((zzs8.map fun i => islow X i.toNat).map V.int), .tup (qs.map V.int), .int 8] st = some (.lst ((List.zipWith rq (zzs8.map fun i => islow X i.toNat) qs).map V.int), st) := fun st => p_quantise (by rw [cl, l]; exact Nat.le_refl _) (by rw [cl]; decide) hq st
  refine ⟨List.zipWith rq (zzs8.map fun i => islow X i.toNat) qs, ?_⟩
  constructor
  · rw [len_zip cl l]; decide
  · intro st
    refine ⟨blk 64 (islow X), ?_⟩
    refine ⟨(zzs8.map fun i => islow X i.toNat).map V.int, ?_⟩
    exact ⟨A st, B st, C st⟩
  intro st
  have e : blk 64 X = ((List.range 64).map X).map V.int := by rw [List.map_map]; rfl
  rw [e]
  refine right_big (n := 8) (N := 63) (q := qs[0]) (by decide) (by lia) (by simp) (len_zip cl l) hq0 q0 ?_ ?_ ?_ st
  · rw [List.getElem?_zipWith, hq0]
    show some (rq (islow X 0) qs[0]) = _
    rw [rq_lr (m := 1) (n := 8) (t := islow X 0) (by decide) (by lia) (by lia) (by decide), sum64]
  · intro i hi; obtain ⟨k, _, rfl⟩ := List.mem_map.mp hi; exact hX k
  · intro hc
    refine zip_zero hq cl l fun c hcm => ?_
    have hX0 : ∀ k, k < 64 → X k = X 0 := fun k hk => hc _ (List.mem_map.mpr ⟨k, List.mem_range.mpr hk, rfl⟩) _ (List.mem_map.mpr ⟨0, by simp, rfl⟩)
    have hb : islow X = islow X := rfl
    have same : ∀ j, j < 64 → islow X j = islow (fun _ => X 0) j := fun j hj => by
      have a := s_islow X hX .none []
      have e2 : blk 64 X = blk 64 (fun _ => X 0) := List.map_congr_left fun k hk => by rw [hX0 k (List.mem_range.mp hk)]
      have b := s_islow (fun _ => X 0) (fun _ => hX 0) .none []
      rw [e2, b] at a
      have a' : blk 64 (islow (fun _ => X 0)) = blk 64 (islow X) := by simpa using a
      have := congrArg (fun l => l[j]?) a'
      simpa [List.getElem?_map, List.getElem?_range hj] using this.symm
    rw [← List.map_drop, List.mem_map] at hcm
    obtain ⟨i, hi, rfl⟩ := hcm
    have hi' : i.toNat < 64 ∧ i.toNat ≠ 0 := by
      have : ∀ i ∈ zzs8.drop 1, i.toNat < 64 ∧ i.toNat ≠ 0 := by decide +kernel
      exact this i hi
    rw [same _ hi'.1]; exact one64 hi'.1 hi'.2
theorem ok4 {X : Nat → Int} (hX : ∀ i, Bd (X i)) {qs : List Int} (l : qs.length = 16) (hq : Qs qs) : ∃ ts, BlkOk 4 (blk 16 X) qs ts := by
  have hq0 : qs[0]? = some qs[0] := List.getElem?_eq_getElem (by lia)
  have q0 := hq qs[0] (List.getElem_mem _)
  have cl : (zzs4.map fun i => four X i.toNat).length = 16 := by rw [List.length_map]; rfl
  have A : ∀ st, d_forward [.lst (blk 16 X), .int 4] st = some (.lst (blk 16 (four X)), st) := fun st => s_fwd4 X hX st
  have B : ∀ st, d_to_row [.lst (blk 16 (four X)), .int 4] st = some (.lst ((zzs4.map fun i => four X i.toNat).map V.int), st) := fun st => s_torow4 (four X) st
  have C : ∀ st, d_quantise [.lst ((zzs4.map fun i => four X i.toNat).map V.int), .tup (qs.map V.int), .int 8] st = some (.lst ((List.zipWith rq (zzs4.map fun i => four X i.toNat) qs).map V.int), st) := fun st => p_quantise (by rw [cl, l]; exact Nat.le_refl _) (by rw [cl]; decide) hq st
  refine ⟨List.zipWith rq (zzs4.map fun i => four X i.toNat) qs, ?_⟩
  constructor
  · rw [len_zip cl l]; decide
  · intro st
    refine ⟨blk 16 (four X), ?_⟩
    refine ⟨(zzs4.map fun i => four X i.toNat).map V.int, ?_⟩
    exact ⟨A st, B st, C st⟩
  intro st
  have e : blk 16 X = ((List.range 16).map X).map V.int := by rw [List.map_map]; rfl
  rw [e]
  refine right_big (n := 4) (N := 15) (q := qs[0]) (by decide) (by lia) (by simp) (len_zip cl l) hq0 q0 ?_ ?_ ?_ st
  · rw [List.getElem?_zipWith, hq0]
    show some (rq (four X 0) qs[0]) = _
    rw [rq_lr (m := 2) (n := 4) (t := ((List.range 16).map X).sum) (by decide) (by lia) (by rw [sum16]; lia) (by decide)]
  · intro i hi; obtain ⟨k, _, rfl⟩ := List.mem_map.mp hi; exact hX k
  · intro hc
    refine zip_zero hq cl l fun c hcm => ?_
    have hX0 : ∀ k, k < 16 → X k = X 0 := fun k hk => hc _ (List.mem_map.mpr ⟨k, List.mem_range.mpr hk, rfl⟩) _ (List.mem_map.mpr ⟨0, by simp, rfl⟩)
    have same : ∀ j, j < 16 → four X j = four (fun _ => X 0) j := fun j hj => by
      have a := s_four X hX .none []
      have e2 : blk 16 X = blk 16 (fun _ => X 0) := List.map_congr_left fun k hk => by rw [hX0 k (List.mem_range.mp hk)]
      have b := s_four (fun _ => X 0) (fun _ => hX 0) .none []
      rw [e2, b] at a
      have a' : blk 16 (four (fun _ => X 0)) = blk 16 (four X) := by simpa using a
      have := congrArg (fun l => l[j]?) a'
      simpa [List.getElem?_map, List.getElem?_range hj] using this.symm
    rw [← List.map_drop, List.mem_map] at hcm
    obtain ⟨i, hi, rfl⟩ := hcm
    have hi' : i.toNat < 16 ∧ i.toNat ≠ 0 := by
      have : ∀ i ∈ zzs4.drop 1, i.toNat < 16 ∧ i.toNat ≠ 0 := by decide +kernel
      exact this i hi
    rw [same _ hi'.1]; exact one16 hi'.1 hi'.2
end
section
theorem leA {a b : Nat} (h : a ≤ b) : a ≤ b := h
local macro_rules | `(tactic| top_raise0) => `(tactic| first | ((with_reducible refine leA ?_); with_reducible assumption) | ((with_reducible apply v_compZ) <;> top_argsB))
theorem right_small {n : Int} (hn : 1 ≤ n ∧ n < 3) {ns ss ts qs : List Int} {q : Int} (l1 : ns.length ≤ 100) (ls : ss.length = qs.length) (lq : (qs.length : Int) = n * n) (hs : ∀ st, d__law_sums [.lst (ns.map V.int), .int n] st = some (.lst (ss.map V.int), st))
    (hts : ts = List.zipWith (fun t q => lr t (n * q)) ss qs) (hq0 : qs[0]? = some q) (hq : Qs qs) (h0 : ts[0]? = some (lr ns.sum (n * q))) (hB : ∀ i ∈ ns, Bd i) (st : St) :
    d__law_is_block [.lst (ts.map V.int), .lst (ns.map V.int), .tup (qs.map V.int), .int n] st = some (.bool true, st) := by
  have l2 : ts.length = qs.length := by rw [hts]; simp [ls]
  have lq' : qs.length ≤ 9 := by rcases (by lia : n = 1 ∨ n = 2) with rfl | rfl <;> lia
  have qq : 1 ≤ q ∧ q ≤ 65535 := hq q (List.mem_of_getElem? hq0)
  have bs := b_sumM hB (by lia)
  have a0 : vItem (.lst (ts.map V.int)) (.int 0) st = some (.int (lr ns.sum (n * q))) := it_map (j := 0) h0 (by decide)
  have a1 : vItem (.tup (qs.map V.int)) (.int 0) st = some (.int q) := it_mapT (j := 0) hq0 (by decide)
  have nq : ∀ q, 1 ≤ q ∧ q ≤ 65535 → 1 ≤ n * q ∧ n * q ≤ 536870000 := by
    intro q hq
    rcases (by lia : n = 1 ∨ n = 2) with rfl | rfl <;> lia
  have rd := s_rounded (t := ns.sum) (nq q qq) st
  have ml : (n : Int).natAbs < 2 ^ 64 := by lia
  have om := o_mull (j := n) ml
  have om' := o_mull (j := q) ml
  have sm := hs st
  have zl : (ss.map V.int).length ≤ (qs.map V.int).length := by simp [ls]
  have zl' : (ss.map V.int).length ≤ 1000000 := by simp [ls]; lia
  have z := zLoop_pure (x := "total") (y := "divisor") (ρ := restrict ["n"] (bindR ["told", "block", "table", "n"] ([V.lst (ts.map V.int), V.lst (ns.map V.int), V.tup (qs.map V.int), V.int n] ++ []))) (st := st) (g := fun t q => V.int (lr t (n * q))) (as := ss) (bs := qs)
    (d := dCall d__law_rounded (dCons (dLoc "total") (dCons (dBin oMul (dLoc "n") (dLoc "divisor")) (dNil)))) (by
      intro t d htd
      have dd := hq d (List.of_mem_zip htd).2
      have rd := s_rounded (t := t) (nq d dd) st
      have om := o_mull (j := d) ml
      top_argsB)
  have ez : List.zipWith (fun t q => V.int (lr t (n * q))) ss qs = ts.map V.int := by rw [hts, List.map_zipWith]
  rw [ez] at z
  have oe := eq_ints ts
  apply run_retE rfl
  · unfold b__law_is_block
    repeat top_raiseB0
  all_goals rfl
theorem ok2 {a b c d : Int} (ha : Bd a) (hb : Bd b) (hc : Bd c) (hd : Bd d) {q0 q1 q2 q3 : Int} (hq : Qs [q0, q1, q2, q3]) : ∃ ts, BlkOk 2 [.int a, .int b, .int c, .int d] [q0, q1, q2, q3] ts := by
  have Q : ∀ q ∈ [q0, q1, q2, q3], 0 < q := fun q h => by have := hq q h; lia
  have e : ∀ q ∈ [q0, q1, q2, q3], ∀ t, rq (t * 4) q = lr t (2 * q) := fun q h t => rq_lr (m := 4) (n := 2) (by decide) (Q q h) rfl (by decide)
  refine ⟨List.zipWith rq [(a + b + c + d) * 4, (a - b + c - d) * 4, (a + b - c - d) * 4, (a - b - c + d) * 4] [q0, q1, q2, q3], ?_⟩
  constructor
  · simp
  · intro st
    refine ⟨[.int ((a + b + c + d) * 4), .int ((a - b + c - d) * 4), .int ((a + b - c - d) * 4), .int ((a - b - c + d) * 4)], ?_⟩
    refine ⟨[.int ((a + b + c + d) * 4), .int ((a - b + c - d) * 4), .int ((a + b - c - d) * 4), .int ((a - b - c + d) * 4)], ?_⟩
    exact ⟨s_fwd2 a b c d st, s_torow2 _ _ _ _ st, p_quantise (cs := [(a + b + c + d) * 4, (a - b + c - d) * 4, (a + b - c - d) * 4, (a - b - c + d) * 4]) (by simp) (by simp) hq st⟩
  · intro st
    refine right_small (n := 2) (qs := [q0, q1, q2, q3]) (ns := [a, b, c, d]) (ss := [a + b + c + d, a - b + c - d, a + b - c - d, a - b - c + d]) (q := q0) (by decide) (by simp) rfl (by simp) (fun st => s_sums2 a b c d st) ?_ rfl hq ?_ ?_ st
    · simp only [List.zipWith]
      rw [e q0 (by simp), e q1 (by simp), e q2 (by simp), e q3 (by simp)]
    · simp only [List.zipWith]
      rw [e q0 (by simp)]
      simp only [List.getElem?_cons_zero, List.sum_cons, List.sum_nil]
      congr 2; lia
    · intro i hi
      simp only [List.mem_cons, List.not_mem_nil, or_false] at hi
      rcases hi with rfl | rfl | rfl | rfl <;> assumption
theorem ok1 {a : Int} (ha : Bd a) {q0 : Int} (hq : Qs [q0]) : ∃ ts, BlkOk 1 [.int a] [q0] ts := by
  have Q : ∀ q ∈ [q0], 0 < q := fun q h => by have := hq q h; lia
  have e : ∀ q ∈ [q0], ∀ t, rq (t * 8) q = lr t (1 * q) := fun q h t => rq_lr (m := 8) (n := 1) (by decide) (Q q h) rfl (by decide)
  refine ⟨List.zipWith rq [a * 8] [q0], ?_⟩
  constructor
  · simp
  · intro st
    refine ⟨[.int (a * 8)], ?_⟩
    refine ⟨[.int (a * 8)], ?_⟩
    exact ⟨s_fwd1 a st, s_torow1 _ st, p_quantise (cs := [a * 8]) (by simp) (by simp) hq st⟩
  · intro st
    refine right_small (n := 1) (qs := [q0]) (ns := [a]) (ss := [a]) (q := q0) (by decide) (by simp) rfl (by simp) (fun st => s_sums1 (.int a) st) ?_ rfl hq ?_ ?_ st
    · simp only [List.zipWith]
      rw [e q0 (by simp)]
    · simp only [List.zipWith]
      rw [e q0 (by simp)]
      simp only [List.getElem?_cons_zero, List.sum_cons, List.sum_nil]
      congr 2; lia
    · intro i hi
      simp only [List.mem_cons, List.not_mem_nil, or_false] at hi
      subst hi; assumption
/-- every side -/
theorem ok_all {h w : Nat} {R : Nat → Nat → Int} {m : Int} (hR : ∀ a b, Bd (R a b - m)) {n : Nat} (hn : n = 1 ∨ n = 2 ∨ n = 4 ∨ n = 8) (x y : Nat) {qs : List Int} (l : qs.length = n * n) (hq : Qs qs) : ∃ ts, BlkOk n (linesV h w R m n x y n) qs ts := by
  rcases hn with rfl | rfl | rfl | rfl
  · match qs, l with
    | [q0], _ => exact ok1 (a := pix h w R m 1 x y 0 0) (hR _ _) hq
  · match qs, l with
    | [q0, q1, q2, q3], _ => exact ok2 (a := pix h w R m 2 x y 0 0) (b := pix h w R m 2 x y 0 1) (c := pix h w R m 2 x y 1 0) (d := pix h w R m 2 x y 1 1) (hR _ _) (hR _ _) (hR _ _) (hR _ _) hq
  · have e : linesV h w R m 4 x y 4 = blk 16 (fun i => pix h w R m 4 x y (i / 4) (i % 4)) := by kernel_rfl
    rw [e]
    exact ok4 (X := fun i => pix h w R m 4 x y (i / 4) (i % 4)) (fun i => hR _ _) l hq
  · have e : linesV h w R m 8 x y 8 = blk 64 (fun i => pix h w R m 8 x y (i / 8) (i % 8)) := by kernel_rfl
    rw [e]
    exact ok8 (X := fun i => pix h w R m 8 x y (i / 8) (i % 8)) (fun i => hR _ _) l hq
section
variable {h w : Nat} {R : Nat → Nat → Int} {m : Int} {n x y : Nat}
theorem s_coded (hh : 1 ≤ h) (hw : 1 ≤ w) (hh' : h ≤ 1000) (hw' : w ≤ 1000) (hn : n ≤ 8) (hx : x ≤ 100) (hy : y ≤ 100) {qs ts : List Int} (ok : BlkOk n (linesV h w R m n x y n) qs ts) (st : St) :
    d_coded_block [planeV h w R, .int x, .int y, .int n, .int m, .tup (qs.map V.int)] st = some (.lst (ts.map V.int), st) := by
  have b := p_block_of (R := R) (m := m) hh hw hh' hw' hn hx hy st
  obtain ⟨f, r, e1, e2, e3⟩ := ok.coded st
  apply run_retE rfl
  · unfold b_coded_block
    repeat top_raiseB0
  all_goals rfl
end
end
section
/-- an urn at u -/
noncomputable def Urn (u : Nat) (st : St) : Prop := ∃ a b : Int, st[u]? = some (.lst [.int a, .int b])
theorem Urn.app {u : Nat} {st : St} (h : Urn u st) (t : St) : Urn u (st ++ t) := by
  obtain ⟨a, b, h⟩ := h
  refine ⟨a, b, ?_⟩
  rw [List.getElem?_append_left (List.getElem?_eq_some_iff.mp h).1]; exact h
/-- the same but for what lies at u -/
structure But (u : Nat) (st st' : St) : Prop where
  len : st'.length = st.length
  get : ∀ j, j ≠ u → st'[j]? = st[j]?
theorem But.trans {u : Nat} {a b c : St} (x : But u a b) (y : But u b c) : But u a c := ⟨y.len.trans x.len, fun j h => (y.get j h).trans (x.get j h)⟩
theorem But.refl (u : Nat) (a : St) : But u a a := ⟨rfl, fun _ _ => rfl⟩
theorem iu0 {u : Nat} {st : St} {a b : V} (h : st[u]? = some (.lst [a, b])) : vItem (.ref u) (.int 0) st = some a := by simp only [vItem, h]; rfl
theorem iu1 {u : Nat} {st : St} {a b : V} (h : st[u]? = some (.lst [a, b])) : vItem (.ref u) (.int 1) st = some b := by simp only [vItem, h]; rfl
theorem pu0 {u : Nat} {st : St} {a b v : V} (h : st[u]? = some (.lst [a, b])) : putItem u 0 v st = some (st.set u (.lst [v, b])) := by simp only [putItem, h]; rfl
theorem pu1 {u : Nat} {st : St} {a b v : V} (h : st[u]? = some (.lst [a, b])) : putItem u 1 v st = some (st.set u (.lst [a, v])) := by simp only [putItem, h]; rfl
theorem set_get {st : St} {u : Nat} {m m' : MO} (h : st[u]? = some m) : (st.set u m')[u]? = some m' := by
  rw [List.getElem?_set_self (List.getElem?_eq_some_iff.mp h).1]
theorem from_ex {u : Nat} {st : St} {many : Int} (hu : Urn u st) (h0 : 0 < many) (h1 : many < 1073741824) :
    ∃ g st', 0 ≤ g ∧ g < many ∧ d__law_from [.ref u, .int many] st = some (.int g, st') ∧ Urn u st' ∧ But u st st' := by
  obtain ⟨a, b, h⟩ := hu
  have e1 := pu1 (v := .int ((b * 5081 + 4457).fmod 1999979)) h
  have i1 := iu1 h
  have i0 := iu0 h
  have h2 := set_get (m' := .lst [.int a, .int ((b * 5081 + 4457).fmod 1999979)]) h
  have j1 := iu1 h2
  have j0 := iu0 h2
  have e2 := pu0 (v := .int (a.fdiv many)) h2
  have h3 := set_get (m' := .lst [.int (a.fdiv many), .int ((b * 5081 + 4457).fmod 1999979)]) h2
  have md : (a + ((b * 5081 + 4457).fmod 1999979).fdiv 13).fmod many = (a + ((b * 5081 + 4457).fmod 1999979).fdiv 13) % many := Int.fmod_eq_emod_of_nonneg _ (Int.le_of_lt h0)
  refine ⟨(a + ((b * 5081 + 4457).fmod 1999979).fdiv 13).fmod many, (st.set u (.lst [.int a, .int ((b * 5081 + 4457).fmod 1999979)])).set u (.lst [.int (a.fdiv many), .int ((b * 5081 + 4457).fmod 1999979)]), ?_, ?_, ?_, ⟨_, _, h3⟩, ⟨by simp, fun j hj => ?_⟩⟩
  · rw [md]; exact Int.emod_nonneg _ (by lia)
  · rw [md]; exact Int.emod_lt_of_pos _ h0
  · apply run_retE rfl
    · unfold b__law_from
      (with_reducible apply q_put) <;> top_argsB
      repeat top_raiseB0
      (with_reducible apply q_put) <;> top_argsB
      repeat top_raiseB0
    all_goals rfl
  · rw [List.getElem?_set_ne (Ne.symm hj), List.getElem?_set_ne (Ne.symm hj)]
theorem urn_ex {ns : List Int} {at' : Nat} (h : ns.length ≤ 1000) (ha : at' ≤ 1000) (st : St) : ∃ a b : Int, d__law_urn [.lst (ns.map V.int), .int (at' : Int)] st = some (.ref st.length, st ++ [.lst [.int a, .int b]]) := by
  by_cases hl : at' < ns.length
  · have i1 := it_map (cs := ns) (j := at') (st := st) (List.getElem?_eq_getElem hl) (by lia)
    refine ⟨?a, ?b, ?h⟩
    case h =>
      apply run_retE rfl
      · unfold b__law_urn
        repeat top_raiseB0
      all_goals rfl
  · refine ⟨?a2, ?b2, ?h2⟩
    case h2 =>
      apply run_retE rfl
      · unfold b__law_urn
        repeat top_raiseB0
      all_goals rfl
/-! the rows -/
theorem to_fun {P : Int → Prop} (h0 : P 0) {us : List V} {w : Nat} (hl : us.length = w) (h : ∀ u ∈ us, ∃ i, u = .int i ∧ P i) : ∃ f : Nat → Int, us = (List.range w).map (fun (j : Nat) => V.int (f j)) ∧ ∀ j, P (f j) := by
  refine ⟨fun j => if hj : j < us.length then (h us[j] (List.getElem_mem hj)).choose else 0, ?_, fun j => ?_⟩
  · refine List.ext_getElem (by simp [hl]) fun j h1 h2 => ?_
    rw [List.getElem_map, List.getElem_range]
    dsimp only
    rw [dif_pos h1]
    exact (h us[j] (List.getElem_mem h1)).choose_spec.1
  · dsimp only
    split
    · rename_i hj; exact (h us[j] (List.getElem_mem hj)).choose_spec.2
    · exact h0
theorem to_rows {P : Int → Prop} (h0 : P 0) {us : List V} {h w : Nat} (hl : us.length = h) (hu : ∀ u ∈ us, ∃ f : Nat → Int, u = .lst ((List.range w).map (fun (j : Nat) => V.int (f j))) ∧ ∀ j, P (f j)) :
    ∃ R : Nat → Nat → Int, V.lst us = rowsV h w R ∧ ∀ a b, P (R a b) := by
  refine ⟨fun y => if hj : y < us.length then (hu us[y] (List.getElem_mem hj)).choose else fun _ => 0, ?_, fun a b => ?_⟩
  · congr 1
    refine List.ext_getElem (by simp [hl]) fun j h1 h2 => ?_
    rw [List.getElem_map, List.getElem_range, rowV, dif_pos h1]
    exact (hu us[j] (List.getElem_mem h1)).choose_spec.1
  · dsimp only
    split
    · rename_i hj; exact (hu us[a] (List.getElem_mem hj)).choose_spec.2 b
    · exact h0
theorem times_row {i : Int} {w : Nat} (hw : w ≤ 1000000) : oTimes (.lst [.int i]) (.int (w : Int)) = some (.lst ((List.range w).map fun (_ : Nat) => V.int i)) := by
  have : vTimes (.lst [.int i]) (.int (w : Int)) = some (List.replicate w [V.int i]).flatten := by
    simp only [vTimes, Int.toNat_natCast, List.length_cons, List.length_nil]
    rw [if_pos (by lia)]
  rw [oTimes, this]
  simp only [Option.map_some]
  congr 2
  clear this hw
  induction w with
  | zero => rfl
  | succ N ih => rw [List.replicate_succ, List.flatten_cons, ih, List.range_succ_eq_map, List.map_cons, List.map_map]; rfl
/-- a list drawn from the urn -/
theorem draw_row {u : Nat} {st : St} {w : Nat} {d : Den V} {ρ : Rho} {P : Int → Prop} (h0 : P 0) (hu : Urn u st) (hd : ∀ v st, Urn u st → ∃ i st', d (ρ.set "x" v) st = some (.int i, st') ∧ Urn u st' ∧ But u st st' ∧ P i) :
    ∃ (f : Nat → Int) (st' : St), cLoop "x" d ((List.range w).map fun (i : Nat) => V.int (i : Int)) ρ st = some ((List.range w).map (fun (j : Nat) => V.int (f j)), st') ∧ Urn u st' ∧ But u st st' ∧ ∀ j, P (f j) := by
  obtain ⟨us, st', e, ⟨i, bt⟩, n, p⟩ := cLoop_ex (x := "x") (d := d) (ρ := ρ) (I := fun s => Urn u s ∧ But u st s) (P := fun v => ∃ i, v = .int i ∧ P i) (by
    rintro v s ⟨hs, bs⟩
    obtain ⟨i, s', e, hs', b', p⟩ := hd v s hs
    exact ⟨.int i, s', e, ⟨hs', bs.trans b'⟩, i, rfl, p⟩) ((List.range w).map fun (i : Nat) => V.int (i : Int)) st ⟨hu, But.refl _ _⟩
  obtain ⟨f, rfl, hf⟩ := to_fun h0 (w := w) (by simpa using n) p
  exact ⟨f, st', e, i, bt, hf⟩
theorem draw_rows {u : Nat} {st : St} {h w : Nat} {D : Den V} {ρ : Rho} {P : Int → Prop} (h0 : P 0) (hu : Urn u st)
    (hd : ∀ v st, Urn u st → ∃ (f : Nat → Int) (st' : St), D (ρ.set "y" v) st = some (.lst ((List.range w).map (fun (j : Nat) => V.int (f j))), st') ∧ Urn u st' ∧ But u st st' ∧ ∀ j, P (f j)) :
    ∃ us R st', cLoop "y" D ((List.range h).map fun (i : Nat) => V.int (i : Int)) ρ st = some (us, st') ∧ V.lst us = rowsV h w R ∧ Urn u st' ∧ But u st st' ∧ ∀ a b, P (R a b) := by
  obtain ⟨us, st', e, ⟨i, bt⟩, n, p⟩ := cLoop_ex (x := "y") (d := D) (ρ := ρ) (I := fun s => Urn u s ∧ But u st s) (P := fun v => ∃ f : Nat → Int, v = .lst ((List.range w).map (fun (j : Nat) => V.int (f j))) ∧ ∀ j, P (f j)) (by
    rintro v s ⟨hs, bs⟩
    obtain ⟨f, s', e, hs', b', p⟩ := hd v s hs
    exact ⟨_, s', e, ⟨hs', bs.trans b'⟩, f, rfl, p⟩) ((List.range h).map fun (i : Nat) => V.int (i : Int)) st ⟨hu, But.refl _ _⟩
  obtain ⟨R, hR, hP⟩ := to_rows h0 (h := h) (w := w) (by simpa using n) p
  exact ⟨us, R, st', e, hR, i, bt, hP⟩
theorem rows_ex {u : Nat} {st : St} {h w : Nat} {most : Int} (hu : Urn u st) (hh : h ≤ 1000) (hw : w ≤ 1000) (hm : 1 ≤ most ∧ most ≤ 4095) :
    ∃ R st', d__law_rows [.ref u, .int (w : Int), .int (h : Int), .int most] st = some (rowsV h w R, st') ∧ Urn u st' ∧ But u st st' ∧ ∀ a b, 0 ≤ R a b ∧ R a b ≤ most := by
  obtain ⟨g, st₁, g0, g1, e1, u1, b1⟩ := from_ex (many := 4) hu (by decide) (by decide)
  have ih := iter_rng0 (b := (h : Int)) (n := h) rfl (by lia)
  have iw := iter_rng0 (b := (w : Int)) (n := w) rfl (by lia)
  rcases (by lia : g = 0 ∨ g = 1 ∨ (g = 2 ∨ g = 3)) with rfl | rfl | hg
  · obtain ⟨l, st₂, l0, l1, e2, u2, b2⟩ := from_ex (many := most + 1) u1 (by lia) (by lia)
    have tr := times_row (i := l) (w := w) (by lia)
    have cl := cLoop_pure (x := "y") (d := dBin oTimes (dList (dCons (dLoc "lone") (dNil))) (dLoc "wide")) (st := st₂) (g := fun _ => rowV w (fun _ _ => l) 0) (l := (List.range h).map fun (i : Nat) => V.int (i : Int))
      (ρ := restrict ["lone","wide"] (((bindR ["urn", "wide", "high", "most"] ([V.ref u, V.int (w : Int), V.int (h : Int), V.int most] ++ [])).set "form" (.int 0)).set "lone" (.int l))) (by
        intro v hv
        top_argsB)
    refine ⟨fun _ _ => l, st₂, ?_, u2, b1.trans b2, fun _ _ => ⟨l0, by show l ≤ most; lia⟩⟩
    apply run_retE rfl
    · unfold b__law_rows
      repeat top_raiseB0
    · rw [List.map_map]; rfl
    · rfl
  · obtain ⟨us, R, st₂, e2, hR, u2, b2, p2⟩ := draw_rows (u := u) (st := st₁) (h := h) (w := w) (P := fun i => 0 ≤ i ∧ i ≤ most) (D := dComp ["most","urn"] "x" (dBlt bRange (dCons (dLoc "wide") (dNil))) (dBin oMul (dCall d__law_from (dCons (dLoc "urn") (dCons (dVal (.int 2)) (dNil)))) (dLoc "most")))
      (ρ := restrict ["most","urn","wide"] ((bindR ["urn", "wide", "high", "most"] ([V.ref u, V.int (w : Int), V.int (h : Int), V.int most] ++ [])).set "form" (.int 1))) (by lia) u1 (by
        intro v s hs
        obtain ⟨f, s', e, hs', bs', p⟩ := draw_row (u := u) (st := s) (w := w) (P := fun i => 0 ≤ i ∧ i ≤ most) (d := dBin oMul (dCall d__law_from (dCons (dLoc "urn") (dCons (dVal (.int 2)) (dNil)))) (dLoc "most"))
          (ρ := restrict ["most","urn"] ((restrict ["most","urn","wide"] ((bindR ["urn", "wide", "high", "most"] ([V.ref u, V.int (w : Int), V.int (h : Int), V.int most] ++ [])).set "form" (.int 1))).set "y" v)) (by lia) hs (by
            intro v' s hs
            obtain ⟨g, s₁, g0, g1, e1, u1, b1⟩ := from_ex (many := 2) hs (by decide) (by decide)
            refine ⟨g * most, s₁, ?_, u1, b1, ?_⟩
            · top_argsB
            · rcases (by lia : g = 0 ∨ g = 1) with rfl | rfl <;> lia)
        refine ⟨f, s', ?_, hs', bs', p⟩
        top_argsB)
    refine ⟨R, st₂, ?_, u2, b1.trans b2, p2⟩
    rw [← hR]
    apply run_retE rfl
    · unfold b__law_rows
      repeat top_raiseB0
    all_goals rfl
  · obtain ⟨us, R, st₂, e2, hR, u2, b2, p2⟩ := draw_rows (u := u) (st := st₁) (h := h) (w := w) (P := fun i => 0 ≤ i ∧ i ≤ most) (D := dComp ["most","urn"] "x" (dBlt bRange (dCons (dLoc "wide") (dNil))) (dCall d__law_from (dCons (dLoc "urn") (dCons (dBin oAdd (dLoc "most") (dVal (.int 1))) (dNil)))))
      (ρ := restrict ["most","urn","wide"] ((bindR ["urn", "wide", "high", "most"] ([V.ref u, V.int (w : Int), V.int (h : Int), V.int most] ++ [])).set "form" (.int g))) (by lia) u1 (by
        intro v s hs
        obtain ⟨f, s', e, hs', bs', p⟩ := draw_row (u := u) (st := s) (w := w) (P := fun i => 0 ≤ i ∧ i ≤ most) (d := dCall d__law_from (dCons (dLoc "urn") (dCons (dBin oAdd (dLoc "most") (dVal (.int 1))) (dNil))))
          (ρ := restrict ["most","urn"] ((restrict ["most","urn","wide"] ((bindR ["urn", "wide", "high", "most"] ([V.ref u, V.int (w : Int), V.int (h : Int), V.int most] ++ [])).set "form" (.int g))).set "y" v)) (by lia) hs (by
            intro v' s hs
            obtain ⟨g, s₁, g0, g1, e1, u1, b1⟩ := from_ex (many := most + 1) hs (by lia) (by lia)
            refine ⟨g, s₁, ?_, u1, b1, by lia⟩
            top_argsB)
        refine ⟨f, s', ?_, hs', bs', p⟩
        top_argsB)
    refine ⟨R, st₂, ?_, u2, b1.trans b2, p2⟩
    rw [← hR]
    apply run_retE rfl
    · unfold b__law_rows
      repeat top_raiseB0
    all_goals rfl
end
section
noncomputable abbrev compV (i a d q : Int) : V := .obj 603 [("ident", .int i), ("across", .int a), ("down", .int d), ("quant", .int q)]
noncomputable abbrev frameV (k : Str) (bits H W : Int) (c1 c2 : V) (n : Int) : V := .obj 669 [("kind", .str k), ("precision", .int bits), ("height", .int H), ("width", .int W), ("components", .lst [c1, c2]), ("n", .int n)]
noncomputable def ceil (m s : Nat) : Nat := (m + s - 1) / s
theorem p_parts {m s : Int} {M S : Nat} (hm : m = M) (hs : s = S) (h1 : 1 ≤ S) (h2 : S ≤ 1000) (st : St) : d_parts [.int m, .int s] st = some (.int (ceil M S : Nat), st) := by
  subst hm; subst hs
  have e : ((M : Int) + (S : Int) - 1).fdiv (S : Int) = ((ceil M S : Nat) : Int) := by
    rw [Int.fdiv_eq_ediv_of_nonneg _ (by lia), show (M : Int) + (S : Int) - 1 = ((M + S - 1 : Nat) : Int) by lia]; rfl
  apply run_retE rfl
  · unfold b_parts
    repeat top_raiseB0
  · rw [e]
  · rfl
section
variable {k : Str} {bits : Int} {a1 d1 a2 d2 H W n : Nat} {i1 i2 q1 q2 : Int}
theorem s_macross (st : St) : d_Frame_most_across [frameV k bits H W (compV i1 a1 d1 q1) (compV i2 a2 d2 q2) n] st = some (.int ((max a1 a2 : Nat) : Int), st) := by
  have bm : bMaxL [.lst [.int (a1 : Int), .int (a2 : Int)]] = some (.int ((max a1 a2 : Nat) : Int)) := by
    simp only [bMaxL, vInts, Option.map_some, Option.bind_some, maxL, List.foldl_cons, List.foldl_nil]
    rw [if_neg (by simp)]; congr 2; lia
  apply run_retE rfl
  · unfold b_Frame_most_across
    repeat top_raiseB0
  all_goals rfl
theorem s_mdown (st : St) : d_Frame_most_down [frameV k bits H W (compV i1 a1 d1 q1) (compV i2 a2 d2 q2) n] st = some (.int ((max d1 d2 : Nat) : Int), st) := by
  have bm : bMaxL [.lst [.int (d1 : Int), .int (d2 : Int)]] = some (.int ((max d1 d2 : Nat) : Int)) := by
    simp only [bMaxL, vInts, Option.map_some, Option.bind_some, maxL, List.foldl_cons, List.foldl_nil]
    rw [if_neg (by simp)]; congr 2; lia
  apply run_retE rfl
  · unfold b_Frame_most_down
    repeat top_raiseB0
  all_goals rfl
variable (ha1 : 1 ≤ a1 ∧ a1 ≤ 2) (hd1 : 1 ≤ d1 ∧ d1 ≤ 2) (ha2 : 1 ≤ a2 ∧ a2 ≤ 2) (hd2 : 1 ≤ d2 ∧ d2 ≤ 2) (hH : 1 ≤ H ∧ H ≤ 6) (hW : 1 ≤ W ∧ W ≤ 6) (hn : n = 1 ∨ n = 2 ∨ n = 4 ∨ n = 8)
include ha1 hd1 ha2 hd2 hH hW hn
theorem s_plane_size (st : St) : d_Frame_plane_size [frameV k bits H W (compV i1 a1 d1 q1) (compV i2 a2 d2 q2) n, .int 1] st = some (.tup [.int (ceil (W * a2) (max a1 a2) : Nat), .int (ceil (H * d2) (max d1 d2) : Nat)], st) := by
  have m1 := s_macross (k := k) (bits := bits) (a1 := a1) (d1 := d1) (a2 := a2) (d2 := d2) (H := H) (W := W) (n := n) (i1 := i1) (i2 := i2) (q1 := q1) (q2 := q2) st
  have m2 := s_mdown (k := k) (bits := bits) (a1 := a1) (d1 := d1) (a2 := a2) (d2 := d2) (H := H) (W := W) (n := n) (i1 := i1) (i2 := i2) (q1 := q1) (q2 := q2) st
  have p1 := p_parts (m := (W : Int) * (a2 : Int)) (s := ((max a1 a2 : Nat) : Int)) (M := W * a2) (S := max a1 a2) (by simp) rfl (by lia) (by lia) st
  have p2 := p_parts (m := (H : Int) * (d2 : Int)) (s := ((max d1 d2 : Nat) : Int)) (M := H * d2) (S := max d1 d2) (by simp) rfl (by lia) (by lia) st
  apply run_retE rfl
  · unfold b_Frame_plane_size
    repeat top_raiseB0
  all_goals rfl
theorem s_blocks (st : St) : d_Frame_blocks [frameV k bits H W (compV i1 a1 d1 q1) (compV i2 a2 d2 q2) n, .int 1] st = some (.tup [.int (ceil (ceil (W * a2) (max a1 a2)) n : Nat), .int (ceil (ceil (H * d2) (max d1 d2)) n : Nat)], st) := by
  have ps := s_plane_size (k := k) (bits := bits) (i1 := i1) (i2 := i2) (q1 := q1) (q2 := q2) ha1 hd1 ha2 hd2 hH hW hn st
  have p1 := p_parts (m := (ceil (W * a2) (max a1 a2) : Nat)) (s := (n : Int)) rfl rfl (by lia) (by lia) st
  have p2 := p_parts (m := (ceil (H * d2) (max d1 d2) : Nat)) (s := (n : Int)) rfl rfl (by lia) (by lia) st
  apply run_retE rfl
  · unfold b_Frame_blocks
    repeat top_raiseB0
  all_goals rfl
theorem s_mcusa (st : St) : d_Frame_mcus_across [frameV k bits H W (compV i1 a1 d1 q1) (compV i2 a2 d2 q2) n] st = some (.int (ceil W (n * max a1 a2) : Nat), st) := by
  have m1 := s_macross (k := k) (bits := bits) (a1 := a1) (d1 := d1) (a2 := a2) (d2 := d2) (H := H) (W := W) (n := n) (i1 := i1) (i2 := i2) (q1 := q1) (q2 := q2) st
  have b : 1 ≤ n * max a1 a2 ∧ n * max a1 a2 ≤ 1000 := by rcases hn with rfl | rfl | rfl | rfl <;> lia
  have p1 := p_parts (m := (W : Int)) (s := (n : Int) * ((max a1 a2 : Nat) : Int)) (M := W) (S := n * max a1 a2) rfl (by simp only [Int.natCast_mul]) b.1 b.2 st
  have om := o_mulr (i := (n : Int)) (j := ((max a1 a2 : Nat) : Int)) (nabc (by lia))
  apply run_retE rfl
  · unfold b_Frame_mcus_across
    repeat top_raiseB0
  all_goals rfl
theorem s_mcusd (st : St) : d_Frame_mcus_down [frameV k bits H W (compV i1 a1 d1 q1) (compV i2 a2 d2 q2) n] st = some (.int (ceil H (n * max d1 d2) : Nat), st) := by
  have m1 := s_mdown (k := k) (bits := bits) (a1 := a1) (d1 := d1) (a2 := a2) (d2 := d2) (H := H) (W := W) (n := n) (i1 := i1) (i2 := i2) (q1 := q1) (q2 := q2) st
  have b : 1 ≤ n * max d1 d2 ∧ n * max d1 d2 ≤ 1000 := by rcases hn with rfl | rfl | rfl | rfl <;> lia
  have p1 := p_parts (m := (H : Int)) (s := (n : Int) * ((max d1 d2 : Nat) : Int)) (M := H) (S := n * max d1 d2) rfl (by simp only [Int.natCast_mul]) b.1 b.2 st
  have om := o_mulr (i := (n : Int)) (j := ((max d1 d2 : Nat) : Int)) (nabc (by lia))
  apply run_retE rfl
  · unfold b_Frame_mcus_down
    repeat top_raiseB0
  all_goals rfl
theorem s_padded0 (st : St) : d_Frame_padded [frameV k bits H W (compV i1 a1 d1 q1) (compV i2 a2 d2 q2) n, .int 0] st = some (.tup [.int ((ceil W (n * max a1 a2) * a1 : Nat) : Int), .int ((ceil H (n * max d1 d2) * d1 : Nat) : Int)], st) := by
  have m1 := s_mcusa (k := k) (bits := bits) (i1 := i1) (i2 := i2) (q1 := q1) (q2 := q2) ha1 hd1 ha2 hd2 hH hW hn st
  have m2 := s_mcusd (k := k) (bits := bits) (i1 := i1) (i2 := i2) (q1 := q1) (q2 := q2) ha1 hd1 ha2 hd2 hH hW hn st
  have o1 := o_mulr (i := (ceil W (n * max a1 a2) : Nat)) (j := (a1 : Int)) (nabc (by lia))
  have o2 := o_mulr (i := (ceil H (n * max d1 d2) : Nat)) (j := (d1 : Int)) (nabc (by lia))
  apply run_retE rfl
  · unfold b_Frame_padded
    repeat top_raiseB0
  all_goals simp only [Int.natCast_mul]
theorem s_padded1 (st : St) : d_Frame_padded [frameV k bits H W (compV i1 a1 d1 q1) (compV i2 a2 d2 q2) n, .int 1] st = some (.tup [.int ((ceil W (n * max a1 a2) * a2 : Nat) : Int), .int ((ceil H (n * max d1 d2) * d2 : Nat) : Int)], st) := by
  have m1 := s_mcusa (k := k) (bits := bits) (i1 := i1) (i2 := i2) (q1 := q1) (q2 := q2) ha1 hd1 ha2 hd2 hH hW hn st
  have m2 := s_mcusd (k := k) (bits := bits) (i1 := i1) (i2 := i2) (q1 := q1) (q2 := q2) ha1 hd1 ha2 hd2 hH hW hn st
  have o1 := o_mulr (i := (ceil W (n * max a1 a2) : Nat)) (j := (a2 : Int)) (nabc (by lia))
  have o2 := o_mulr (i := (ceil H (n * max d1 d2) : Nat)) (j := (d2 : Int)) (nabc (by lia))
  apply run_retE rfl
  · unfold b_Frame_padded
    repeat top_raiseB0
  all_goals simp only [Int.natCast_mul]
end
/-- sizes -/
noncomputable abbrev GeoAt (W a1 a2 n : Nat) : Prop := 1 ≤ ceil (W * a2) (max a1 a2) ∧ ceil (W * a2) (max a1 a2) ≤ 100 ∧ ceil (ceil (W * a2) (max a1 a2)) n ≤ ceil W (n * max a1 a2) * a2 ∧ ceil W (n * max a1 a2) * a2 ≤ 100 ∧ ceil W (n * max a1 a2) * a1 ≤ 100
theorem geo_all : ((List.range 7).all fun W => (List.range 3).all fun a1 => (List.range 3).all fun a2 => [1, 2, 4, 8].all fun n => decide ((1 ≤ W ∧ 1 ≤ a1 ∧ 1 ≤ a2) → GeoAt W a1 a2 n)) = true := by decide +kernel
theorem geo {W a1 a2 n : Nat} (hW : 1 ≤ W ∧ W ≤ 6) (h1 : 1 ≤ a1 ∧ a1 ≤ 2) (h2 : 1 ≤ a2 ∧ a2 ≤ 2) (hn : n = 1 ∨ n = 2 ∨ n = 4 ∨ n = 8) :
    1 ≤ ceil (W * a2) (max a1 a2) ∧ ceil (W * a2) (max a1 a2) ≤ 100 ∧ ceil (ceil (W * a2) (max a1 a2)) n ≤ ceil W (n * max a1 a2) * a2 ∧ ceil W (n * max a1 a2) * a2 ≤ 100 ∧ ceil W (n * max a1 a2) * a1 ≤ 100 := by
  have h := List.all_eq_true.mp geo_all W (List.mem_range.mpr (by lia))
  have h := List.all_eq_true.mp h a1 (List.mem_range.mpr (by lia))
  have h := List.all_eq_true.mp h a2 (List.mem_range.mpr (by lia))
  have h := List.all_eq_true.mp h n (by simpa using hn)
  exact of_decide_eq_true h ⟨hW.1, h1.1, h2.1⟩
theorem beyond {w n x : Nat} (hn : n = 1 ∨ n = 2 ∨ n = 4 ∨ n = 8) (hw : 1 ≤ w) : w ≤ x * n ↔ ¬ x < ceil w n := by
  unfold ceil
  rcases hn with rfl | rfl | rfl | rfl <;> lia
end
section
noncomputable abbrev noneRow (a : Nat) : MO := .lst (List.replicate a V.none)
section
variable {st : St} {F : List (String × V)} {us : List V} {T : St}
theorem g_fields : (st ++ (MO.fields F :: T))[st.length]? = some (.fields F) := by simp
theorem g_grow {m : MO} : (st ++ (m :: MO.grow us :: T))[st.length + 1]? = some (.grow us) := by
  rw [List.getElem?_append_right (by lia)]; simp
theorem t_grow {m m' : MO} : (st ++ (m :: m' :: T)).set (st.length + 1) (.grow us) = st ++ (m :: .grow us :: T) := by
  rw [List.set_append_right _ _ (by lia)]; simp
theorem t_fields {m : MO} : (st ++ (m :: T)).set st.length (.fields F) = st ++ (.fields F :: T) := by
  rw [List.set_append_right _ _ (by lia)]; simp
theorem push_step {ρ : Rho} {mv : V} {ac dn : Nat} (hs : ρ "self" = some (.self 702 st.length)) (hF : F = [("many", mv), ("planes", .ref (st.length + 1))]) (hd : ρ "down" = some (.int (dn : Int))) (ha : ρ "across" = some (.int (ac : Int))) (bd : dn ≤ 1000) (ba : ac ≤ 1000) (bu : us.length ≤ 1000) :
    dPush (dAttr "planes" (dLoc "self")) (dComp ["across"] "y" (dBlt bRange (dCons (dLoc "down") (dNil))) (dTimesM (dList (dCons (dVal .none) (dNil))) (dLoc "across"))) ρ (st ++ (.fields F :: .grow us :: T)) =
      some (.none, st ++ (.fields F :: .grow (us ++ [.lst ((List.range dn).map fun (i : Nat) => V.ref (st.length + 2 + T.length + i))]) :: (T ++ List.replicate dn (noneRow ac)))) := by
  have vt : vTimes (.lst [.none]) (.int (ac : Int)) = some (List.replicate ac V.none) := by
    simp only [vTimes, Int.toNat_natCast, List.length_cons, List.length_nil]
    rw [if_pos (by lia)]; simp
  have it := iter_rng0 (b := (dn : Int)) (n := dn) rfl (by lia)
  have al := cLoop_alloc (x := "y") (d := dTimesM (dList (dCons (dVal .none) (dNil))) (dLoc "across")) (ρ := restrict ["across"] ρ) (m := noneRow ac) (by
    intro v st
    refine v_timesM (st₁ := st) ?_ ?_ vt
    · top_argsB
    · top_argsB) ((List.range dn).map fun (i : Nat) => V.int (i : Int)) (st ++ (.fields F :: .grow us :: T))
  have e1 : ((List.range dn).map fun (i : Nat) => V.int (i : Int)).length = dn := by simp
  have e2 : (st ++ (MO.fields F :: .grow us :: T)).length = st.length + 2 + T.length := by simp only [List.length_append, List.length_cons]; lia
  rw [e1, e2] at al
  have g1 : (st ++ (MO.fields F :: .grow us :: T))[st.length + 1]? = some (.grow us) := g_grow
  have g2 : ((st ++ (MO.fields F :: .grow us :: T)) ++ List.replicate dn (noneRow ac))[st.length + 1]? = some (.grow us) := by
    rw [List.append_assoc]; exact g_grow
  have g0 : (st ++ (MO.fields F :: .grow us :: T))[st.length]? = some (.fields F) := g_fields
  have va : vAttr "planes" (.self 702 st.length) (st ++ (MO.fields F :: .grow us :: T)) = some (.ref (st.length + 1)) := at_self g0 (by rw [hF]; rfl)
  refine (v_push (st₁ := st ++ (MO.fields F :: .grow us :: T)) (st₂ := (st ++ (MO.fields F :: .grow us :: T)) ++ List.replicate dn (noneRow ac)) (i := st.length + 1) (us' := us) (us := us) (v := .lst ((List.range dn).map fun (i : Nat) => V.ref (st.length + 2 + T.length + i))) ?_ g1 ?_ g2 (by lia)).trans ?_
  · top_argsB
  · top_argsB
  · rw [List.append_assoc, List.cons_append, List.cons_append, t_grow]
end
/-- what the grid's part of the state is -/
structure GridSt (g : Nat) (n0 a0 n1 a1 : Nat) (F : Nat → Nat → V) (st : St) : Prop where
  ex : ∃ b0 b1, g < b0 ∧ b0 + n0 ≤ b1 ∧ st[g]? = some (.grow [.lst ((List.range n0).map fun (i : Nat) => V.ref (b0 + i)), .lst ((List.range n1).map fun (i : Nat) => V.ref (b1 + i))]) ∧
    (∀ i, i < n0 → st[b0 + i]? = some (noneRow a0)) ∧ ∀ y, y < n1 → st[b1 + y]? = some (.lst ((List.range a1).map fun (x : Nat) => F y x))
noncomputable abbrev gridV (m : V) (g : Nat) : V := .obj 702 [("many", m), ("planes", .ref g)]
section
variable {k : Str} {bits : Int} {a1 d1 a2 d2 H W n : Nat} {i1 i2 q1 q2 : Int}
variable (ha1 : 1 ≤ a1 ∧ a1 ≤ 2) (hd1 : 1 ≤ d1 ∧ d1 ≤ 2) (ha2 : 1 ≤ a2 ∧ a2 ≤ 2) (hd2 : 1 ≤ d2 ∧ d2 ≤ 2) (hH : 1 ≤ H ∧ H ≤ 6) (hW : 1 ≤ W ∧ W ≤ 6) (hn : n = 1 ∨ n = 2 ∨ n = 4 ∨ n = 8)
include ha1 hd1 ha2 hd2 hH hW hn
theorem grid_init (st : St) : ∃ st', d_Grid_init [.self 702 st.length, frameV k bits H W (compV i1 a1 d1 q1) (compV i2 a2 d2 q2) n] (st ++ [.fields []]) = some (.none, st') ∧
    st'[st.length]? = some (.fields [("many", .int ((n : Int) * n)), ("planes", .ref (st.length + 1))]) ∧
    GridSt (st.length + 1) (ceil H (n * max d1 d2) * d1) (ceil W (n * max a1 a2) * a1) (ceil H (n * max d1 d2) * d2) (ceil W (n * max a1 a2) * a2) (fun _ _ => .none) st' := by
  have gw := geo hW ha1 ha2 hn
  have gh := geo hH hd1 hd2 hn
  have pd0 := s_padded0 (k := k) (bits := bits) (i1 := i1) (i2 := i2) (q1 := q1) (q2 := q2) ha1 hd1 ha2 hd2 hH hW hn
  have pd1 := s_padded1 (k := k) (bits := bits) (i1 := i1) (i2 := i2) (q1 := q1) (q2 := q2) ha1 hd1 ha2 hd2 hH hW hn
  generalize ceil W (n * max a1 a2) * a1 = A0 at *
  generalize ceil H (n * max d1 d2) * d1 = D0 at *
  generalize ceil W (n * max a1 a2) * a2 = A1 at *
  generalize ceil H (n * max d1 d2) * d2 = D1 at *
  have it : vIter (.rng 0 ((([compV i1 a1 d1 q1, compV i2 a2 d2 q2] : List V).length : Nat) : Int) 1) = some [.int 0, .int 1] := by kernel_rfl
  refine ⟨st ++ (.fields [("many", .int ((n : Int) * n)), ("planes", .ref (st.length + 1))] :: .grow ([.lst ((List.range D0).map fun (i : Nat) => V.ref (st.length + 2 + ([] : St).length + i))] ++ [.lst ((List.range D1).map fun (i : Nat) => V.ref (st.length + 2 + ([] ++ List.replicate D0 (noneRow A0)).length + i))])
    :: (([] ++ List.replicate D0 (noneRow A0)) ++ List.replicate D1 (noneRow A1))), ?_, ?_, ?_⟩
  · have g0 : (st ++ [MO.fields []])[st.length]? = some (.fields []) := by simp
    have om := o_mulr (i := (n : Int)) (j := (n : Int)) (by lia)
    apply run_nextE rfl
    · unfold b_Grid_init
      (with_reducible apply q_set) <;> top_argsB
      rw [t_fields]
      simp only [List.nil_append]
      have g1 : ((st ++ [MO.fields [("many", V.int ((n : Int) * n))]]) ++ [MO.grow []])[st.length]? = some (.fields [("many", .int ((n : Int) * n))]) := by simp
      (with_reducible apply q_set) <;> top_argsB
      simp only [List.append_assoc, List.cons_append, List.nil_append, List.length_append, List.length_cons, List.length_nil, Nat.zero_add, t_fields]
      (with_reducible apply q_for) <;> top_argsB
      · with_reducible apply sl_cons
        · have e := pd0 (st ++ [MO.fields [("many", .int ((n : Int) * n)), ("planes", .ref (st.length + 1))], .grow []])
          top_raiseB0
          with_reducible apply q_expr
          · refine push_step (st := st) (us := []) (T := []) (ac := A0) (dn := D0) (F := [("many", .int ((n : Int) * n)), ("planes", .ref (st.length + 1))]) ?_ rfl ?_ ?_ (by lia) (by lia) (by simp)
            · top_caughtB
            · top_caughtB
            · top_caughtB
          repeat top_raiseB0
        with_reducible apply sl_cons
        · have e := pd1 (st ++ (MO.fields [("many", .int ((n : Int) * n)), ("planes", .ref (st.length + 1))] :: .grow ([] ++ [.lst ((List.range D0).map fun (i : Nat) => V.ref (st.length + 2 + ([] : St).length + i))]) :: ([] ++ List.replicate D0 (noneRow A0))))
          top_raiseB0
          with_reducible apply q_expr
          · refine push_step (st := st) (us := [.lst ((List.range D0).map fun (i : Nat) => V.ref (st.length + 2 + ([] : St).length + i))]) (T := [] ++ List.replicate D0 (noneRow A0)) (ac := A1) (dn := D1) (F := [("many", .int ((n : Int) * n)), ("planes", .ref (st.length + 1))]) ?_ rfl ?_ ?_ (by lia) (by lia) (by simp)
            · top_caughtB
            · top_caughtB
            · top_caughtB
          repeat top_raiseB0
        exact sl_nil
      repeat top_raiseB0
    rfl
  · simp
  · refine ⟨st.length + 2, st.length + 2 + D0, by lia, by lia, ?_, fun i hi => ?_, fun y hy => ?_⟩
    · rw [g_grow]; simp
    · rw [List.getElem?_append_right (by lia), show st.length + 2 + i - st.length = i + 1 + 1 by lia, List.getElem?_cons_succ, List.getElem?_cons_succ, List.nil_append, List.getElem?_append_left (by simpa using hi), List.getElem?_replicate, if_pos hi]
    · rw [List.getElem?_append_right (by lia), show st.length + 2 + D0 + y - st.length = (D0 + y) + 1 + 1 by lia, List.getElem?_cons_succ, List.getElem?_cons_succ, List.nil_append, List.getElem?_append_right (by simp), List.length_replicate, show D0 + y - D0 = y by lia, List.getElem?_replicate, if_pos hy]
      refine congrArg (fun l => some (MO.lst l)) ?_
      refine List.ext_getElem (by simp) fun j h1 h2 => by simp
end
end
section
theorem v_orT' {ρ : Rho} {st st₁ : St} {t t' : Den Bool} {c : Bool} (h : t ρ st = some (c, st₁)) (hc : c = true) : tOr t t' ρ st = some (true, st₁) := by subst hc; exact v_orT h
theorem v_comp2 {ρ : Rho} {st st₁ : St} {a : Den V} {rows : List V} (ha : a ρ st = some (.lst rows, st₁)) (h : rowsNone st₁ rows = true) : dComp2 a ρ st = some (.lst [], st₁) := by
  simp only [dComp2, ha, Option.bind_some, h, if_true]
local macro_rules | `(tactic| top_raise0) => `(tactic| first | ((with_reducible apply v_orT'); (focus top_argsB); top_raiseB) | ((with_reducible apply v_comp2) <;> top_argsB))
section
variable {g n0 a0 n1 a1 : Nat} {F : Nat → Nat → V} {st : St}
theorem GridSt.set {L : Nat} {m : MO} (G : GridSt g n0 a0 n1 a1 F st) (h : L < g) : GridSt g n0 a0 n1 a1 F (st.set L m) := by
  obtain ⟨b0, b1, h0, h1, eg, e0, e1⟩ := G.ex
  refine ⟨b0, b1, h0, h1, ?_, fun i hi => ?_, fun y hy => ?_⟩
  · rw [List.getElem?_set_ne (by lia)]; exact eg
  · rw [List.getElem?_set_ne (by lia)]; exact e0 i hi
  · rw [List.getElem?_set_ne (by lia)]; exact e1 y hy
theorem GridSt.cong {F' : Nat → Nat → V} (G : GridSt g n0 a0 n1 a1 F st) (h : ∀ y, y < n1 → ∀ x, x < a1 → F y x = F' y x) : GridSt g n0 a0 n1 a1 F' st := by
  obtain ⟨b0, b1, h0, h1, eg, e0, e1⟩ := G.ex
  refine ⟨b0, b1, h0, h1, eg, e0, fun y hy => ?_⟩
  rw [e1 y hy]
  refine congrArg (fun l => some (MO.lst l)) (List.map_congr_left fun x hx => h y hy x (List.mem_range.mp hx))
theorem grid_get (G : GridSt g n0 a0 n1 a1 F st) (hn1 : n1 ≤ 1000) (ha1 : a1 ≤ 1000) {y x : Nat} (hy : y < n1) (hx : x < a1) :
    ∃ p r, vItem (.ref g) (.int 1) st = some p ∧ isOwn p = false ∧ vItem p (.int (y : Int)) st = some (.ref r) ∧ vItem (.ref r) (.int (x : Int)) st = some (F y x) := by
  obtain ⟨b0, b1, h0, h1, eg, e0, e1⟩ := G.ex
  refine ⟨_, b1 + y, ?_, ?_, it_range (n := n1) (g := fun (i : Nat) => V.ref (b1 + i)) (j := y) rfl hy (by lia), ?_⟩
  · simp only [vItem, eg]; rfl
  · rfl
  · simp only [vItem, e1 y hy]
    exact at_nat (by rw [List.getElem?_map, List.getElem?_range hx]; rfl) (by lia)
theorem grid_zero (G : GridSt g n0 a0 n1 a1 F st) : ∃ l, vItem (.ref g) (.int 0) st = some (.lst l) ∧ rowsNone st l = true := by
  obtain ⟨b0, b1, h0, h1, eg, e0, e1⟩ := G.ex
  refine ⟨(List.range n0).map fun (i : Nat) => V.ref (b0 + i), ?_, ?_⟩
  · simp only [vItem, eg]; rfl
  · unfold rowsNone
    refine List.all_eq_true.mpr fun v hv => ?_
    obtain ⟨i, hi, rfl⟩ := List.mem_map.mp hv
    dsimp only
    rw [e0 i (List.mem_range.mp hi)]
    dsimp only
    refine List.all_eq_true.mpr fun u hu => ?_
    rw [List.eq_of_mem_replicate hu]
theorem grid_put (G : GridSt g n0 a0 n1 a1 F st) (hn1 : n1 ≤ 1000) (ha1 : a1 ≤ 1000) {y x : Nat} (hy : y < n1) (hx : x < a1) {row : List V} (hr : row.length ≤ 1000000) (m : V) :
    ∃ st', d_Grid_put [gridV m g, .int 1, .int (x : Int), .int (y : Int), .lst row] st = some (.none, st') ∧ GridSt g n0 a0 n1 a1 (fun y' x' => if y' = y ∧ x' = x then .lst row else F y' x') st' := by
  obtain ⟨b0, b1, h0, h1, eg, e0, e1⟩ := G.ex
  have i1 : vItem (.ref g) (.int 1) st = some (.lst ((List.range n1).map fun (i : Nat) => V.ref (b1 + i))) := by simp only [vItem, eg]; rfl
  have i2 : vItem (.lst ((List.range n1).map fun (i : Nat) => V.ref (b1 + i))) (.int (y : Int)) st = some (.ref (b1 + y)) := it_range (n := n1) (g := fun (i : Nat) => V.ref (b1 + i)) (j := y) rfl hy (by lia)
  have pt : putItem (b1 + y) (x : Int) (.lst row) st = some (st.set (b1 + y) (.lst (((List.range a1).map fun (x : Nat) => F y x).set x (.lst row)))) := by
    simp only [putItem, e1 y hy]
    rw [if_pos (by simp; lia)]; simp
  refine ⟨st.set (b1 + y) (.lst (((List.range a1).map fun (x : Nat) => F y x).set x (.lst row))), ?_, b0, b1, h0, h1, ?_, fun i hi => ?_, fun y' hy' => ?_⟩
  · apply run_nextE rfl
    · unfold b_Grid_put
      (with_reducible apply q_put) <;> top_argsB
      repeat top_raiseB0
    rfl
  · rw [List.getElem?_set_ne (by lia)]; exact eg
  · rw [List.getElem?_set_ne (by lia)]; exact e0 i hi
  · by_cases e : y' = y
    · subst e
      rw [List.getElem?_set_self (List.getElem?_eq_some_iff.mp (e1 y' hy')).1]
      refine congrArg (fun l => some (MO.lst l)) (List.ext_getElem (by simp) fun j h1 h2 => ?_)
      rw [List.getElem_set]
      simp only [List.getElem_map, List.getElem_range, true_and]
      by_cases hj : x = j
      · subst hj; simp
      · rw [if_neg hj, if_neg (fun h => hj h.symm)]
    · rw [List.getElem?_set_ne (by lia), e1 y' hy']
      refine congrArg (fun l => some (MO.lst l)) (List.map_congr_left fun x' _ => ?_)
      rw [if_neg (fun h => e h.1)]
end
section
variable {k : Str} {bits : Int} {a1 d1 a2 d2 H W n : Nat} {i1 i2 q1 q2 : Int}
variable (ha1 : 1 ≤ a1 ∧ a1 ≤ 2) (hd1 : 1 ≤ d1 ∧ d1 ≤ 2) (ha2 : 1 ≤ a2 ∧ a2 ≤ 2) (hd2 : 1 ≤ d2 ∧ d2 ≤ 2) (hH : 1 ≤ H ∧ H ≤ 6) (hW : 1 ≤ W ∧ W ≤ 6) (hn : n = 1 ∨ n = 2 ∨ n = 4 ∨ n = 8)
include ha1 hd1 ha2 hd2 hH hW hn
theorem put_comp {R : Nat → Nat → Int} {qs : List Int} {T : Nat → Nat → List Int} {g n0 a0 nn aa : Nat} {mv : V} {st : St} (hb : bits = 8 ∨ bits = 12)
    {h w bw bh : Nat} (eh : ceil (H * d2) (max d1 d2) = h) (ew : ceil (W * a2) (max a1 a2) = w) (ebw : ceil w n = bw) (ebh : ceil h n = bh) (hh : 1 ≤ h ∧ h ≤ 100) (hw : 1 ≤ w ∧ w ≤ 100) (hbw : bw ≤ aa) (hbh : bh ≤ nn) (haa : aa ≤ 100) (hnn : nn ≤ 100)
    (ok : ∀ y x, BlkOk n (linesV h w R (1 * 2 ^ (bits - 1).toNat) n x y n) qs (T y x)) (hT : ∀ y x, (T y x).length ≤ 1000000) (G : GridSt g n0 a0 nn aa (fun _ _ => .none) st) :
    ∃ st', d_put_component [frameV k bits H W (compV i1 a1 d1 q1) (compV i2 a2 d2 q2) n, gridV mv g, .int 1, planeV h w R, .tup (qs.map V.int)] st = some (.none, st') ∧
      GridSt g n0 a0 nn aa (fun y x => if y < bh ∧ x < bw then .lst ((T y x).map V.int) else .none) st' := by
  have hn8 : n ≤ 8 := by lia
  have bl := s_blocks (k := k) (bits := bits) (i1 := i1) (i2 := i2) (q1 := q1) (q2 := q2) ha1 hd1 ha2 hd2 hH hW hn st
  rw [eh, ew, ebw, ebh] at bl
  have sh := o_shl (i := 1) (j := bits - 1) (by lia)
  have itx := iter_rng0 (b := (bw : Int)) (n := bw) rfl (by lia)
  have ity := iter_rng0 (b := (bh : Int)) (n := bh) rfl (by lia)
  obtain ⟨ρ', st', e, G'⟩ := sLoop_range0 (x := "y") (n := bh) (st := st)
    (ρ := ((((bindR ["frame", "grid", "place", "plane", "qtable"] ([frameV k bits H W (compV i1 a1 d1 q1) (compV i2 a2 d2 q2) n, gridV mv g, .int 1, planeV h w R, .tup (qs.map V.int)] ++ [])).set "across" (.int (bw : Int))).set "down" (.int (bh : Int))).set "centre" (.int (1 * 2 ^ (bits - 1).toNat))))
    (I := fun j ρ s => (ρ "frame" = some (frameV k bits H W (compV i1 a1 d1 q1) (compV i2 a2 d2 q2) n) ∧ ρ "grid" = some (gridV mv g) ∧ ρ "place" = some (.int 1) ∧ ρ "plane" = some (planeV h w R) ∧ ρ "qtable" = some (.tup (qs.map V.int)) ∧ ρ "across" = some (.int (bw : Int)) ∧ ρ "centre" = some (.int (1 * 2 ^ (bits - 1).toNat))) ∧
      GridSt g n0 a0 nn aa (fun y x => if y < j ∧ x < bw then .lst ((T y x).map V.int) else .none) s)
    (b := (sSeq (sFor "x" (dBlt bRange (dCons (dLoc "across") (dNil))) (sSeq (sExpr (dMeth "put" (fun C => if C = 702 then some d_Grid_put else none) (dLoc "grid") (dCons (dLoc "place") (dCons (dLoc "x") (dCons (dLoc "y") (dCons (dCall d_coded_block (dCons (dLoc "plane") (dCons (dLoc "x") (dCons (dLoc "y") (dCons (dAttr "n" (dLoc "frame")) (dCons (dLoc "centre") (dCons (dLoc "qtable") (dNil)))))))) (dNil))))))) (sNil))) (sNil)))
    ⟨⟨by top_caughtB, by top_caughtB, by top_caughtB, by top_caughtB, by top_caughtB, by top_caughtB, by top_caughtB⟩, G.cong fun y _ x _ => by simp⟩ (by
      rintro y ρ s hy ⟨⟨h1, h2, h3, h4, h5, h6, h7⟩, G1⟩
      obtain ⟨ρ₂, s₂, e₂, ⟨j1, j2, j3, j4, j5, j6, j7, j8⟩, G2⟩ := sLoop_range0 (x := "x") (n := bw) (st := s) (ρ := ρ.set "y" (.int (y : Int)))
        (I := fun j ρ s => (ρ "frame" = some (frameV k bits H W (compV i1 a1 d1 q1) (compV i2 a2 d2 q2) n) ∧ ρ "grid" = some (gridV mv g) ∧ ρ "place" = some (.int 1) ∧ ρ "plane" = some (planeV h w R) ∧ ρ "qtable" = some (.tup (qs.map V.int)) ∧ ρ "across" = some (.int (bw : Int)) ∧ ρ "centre" = some (.int (1 * 2 ^ (bits - 1).toNat)) ∧ ρ "y" = some (.int (y : Int))) ∧
          GridSt g n0 a0 nn aa (fun y' x' => if (y' < y ∧ x' < bw) ∨ (y' = y ∧ x' < j) then .lst ((T y' x').map V.int) else .none) s)
        (b := (sSeq (sExpr (dMeth "put" (fun C => if C = 702 then some d_Grid_put else none) (dLoc "grid") (dCons (dLoc "place") (dCons (dLoc "x") (dCons (dLoc "y") (dCons (dCall d_coded_block (dCons (dLoc "plane") (dCons (dLoc "x") (dCons (dLoc "y") (dCons (dAttr "n" (dLoc "frame")) (dCons (dLoc "centre") (dCons (dLoc "qtable") (dNil)))))))) (dNil))))))) (sNil)))
        ⟨⟨by top_caughtB, by top_caughtB, by top_caughtB, by top_caughtB, by top_caughtB, by top_caughtB, by top_caughtB, by top_caughtB⟩, G1.cong fun y' _ x' _ => by simp⟩ (by
          rintro x ρ s hx ⟨⟨h1, h2, h3, h4, h5, h6, h7, h8⟩, G2⟩
          have cb := s_coded (R := R) (m := 1 * 2 ^ (bits - 1).toNat) (x := x) (y := y) hh.1 hw.1 (by lia) (by lia) hn8 (by lia) (by lia) (ok y x) s
          obtain ⟨s', e', G3⟩ := grid_put G2 (by lia) (by lia) (y := y) (x := x) (by lia) (by lia) (row := (T y x).map V.int) (by simpa using hT y x) mv
          apply exI
          · repeat top_raiseB0
          refine ⟨⟨by top_caughtB, by top_caughtB, by top_caughtB, by top_caughtB, by top_caughtB, by top_caughtB, by top_caughtB, by top_caughtB⟩, G3.cong fun y' _ x' _ => ?_⟩
          by_cases hc : y' = y ∧ x' = x
          · obtain ⟨rfl, rfl⟩ := hc
            rw [if_pos ⟨rfl, rfl⟩, if_pos (.inr ⟨rfl, by lia⟩)]
          · rw [if_neg hc]
            by_cases hd : (y' < y ∧ x' < bw) ∨ (y' = y ∧ x' < x)
            · rw [if_pos hd, if_pos (by lia)]
            · rw [if_neg hd, if_neg (by lia)])
      apply exI
      · repeat top_raiseB0
      refine ⟨⟨by top_caughtB, by top_caughtB, by top_caughtB, by top_caughtB, by top_caughtB, by top_caughtB, by top_caughtB⟩, G2.cong fun y' _ x' _ => ?_⟩
      by_cases hd : (y' < y ∧ x' < bw) ∨ (y' = y ∧ x' < bw)
      · rw [if_pos hd, if_pos (by lia)]
      · rw [if_neg hd, if_neg (by lia)])
  refine ⟨st', ?_, G'.2⟩
  apply run_nextE rfl
  · unfold b_put_component
    repeat top_raiseB0
  rfl
end
end
section
local macro_rules | `(tactic| top_raise0) => `(tactic| first | ((with_reducible apply v_orT'); (focus top_argsB); top_raiseB) | ((with_reducible apply v_comp2) <;> top_argsB))
theorem ne_rows (h w : Nat) (R : Nat → Nat → Int) : oNe (rowsV h w R) (rowsV h w R) = some (.bool false) := by
  have e : rowsV h w R = .lst (((List.range h).map fun y => (List.range w).map (R y)).map fun r => V.lst (r.map V.int)) := by
    rw [List.map_map]
    refine congrArg V.lst (List.map_congr_left fun y _ => ?_)
    simp only [Function.comp_apply, List.map_map]; rfl
  rw [e, oNe, eqB_rows]; rfl
theorem t_any {st T : St} {m m' : MO} : (st ++ (m :: T)).set st.length m' = st ++ (m' :: T) := by
  rw [List.set_append_right _ _ (by omega)]; simp
theorem new_app {ρ : Rho} {st st₁ T : St} {r : Den (List V)} {C : Addr} {D : Meth} {vs : List V} {fs : List (String × V)} (hr : r ρ st = some (vs, st₁)) (h : D (.self C st₁.length :: vs) (st₁ ++ [.fields []]) = some (.none, st₁ ++ (.fields fs :: T))) :
    dNew C D r ρ st = some (.obj C fs, st₁ ++ (.dead :: T)) := by
  have := v_new (C := C) hr h g_fields
  rw [t_any] at this; exact this
theorem q_setA {ρ : Rho} {s T T' : St} {fs : List (String × V)} {x : String} {a b : Den V} {C : Addr} {v : V} {q : SDen} {res : Option (Fl × Rho × St)} (h : a ρ (s ++ (.fields fs :: T)) = some (v, s ++ (.fields fs :: T'))) (ho : b ρ (s ++ (.fields fs :: T')) = some (.self C s.length, s ++ (.fields fs :: T')))
    (hn : (fs.lookup x).isNone = true) (hl : fs.length < 500) (k : q ρ (s ++ (.fields (fs ++ [(x, v)]) :: T')) = res) : sSeq (sSet x b a) q ρ (s ++ (.fields fs :: T)) = res :=
  q_set h ho g_fields hn hl (by rw [t_fields]; exact k)
local macro_rules | `(tactic| top_raiseB0) => `(tactic| ((with_reducible apply q_setA) <;> top_argsB))
local macro_rules | `(tactic| top_argsB) => `(tactic| ((with_reducible apply eqA); with_reducible assumption))
theorem plane_init {s : St} {a b c : V} (na : isOwn a = false) (nb : isOwn b = false) (nc : isOwn c = false) : d_Plane_init [.self 737 s.length, a, b, c] (s ++ [.fields []]) = some (.none, s ++ [.fields [("width", a), ("height", b), ("rows", c)]]) := by
  apply run_nextE rfl
  · unfold b_Plane_init
    repeat top_raiseB0
  rfl
theorem comp_init {s : St} {a b c d : V} (na : isOwn a = false) (nb : isOwn b = false) (nc : isOwn c = false) (nd : isOwn d = false) : d_Component_init [.self 603 s.length, a, b, c, d] (s ++ [.fields []]) = some (.none, s ++ [.fields [("ident", a), ("across", b), ("down", c), ("quant", d)]]) := by
  apply run_nextE rfl
  · unfold b_Component_init
    repeat top_raiseB0
  rfl
theorem frame_init {s : St} {a b c d e f : V} (na : isOwn a = false) (nb : isOwn b = false) (nc : isOwn c = false) (nd : isOwn d = false) (ne : isOwn e = false) (nf : isOwn f = false) :
    d_Frame_init [.self 669 s.length, a, b, c, d, e, f] (s ++ [.fields []]) = some (.none, s ++ [.fields [("kind", a), ("precision", b), ("height", c), ("width", d), ("components", e), ("n", f)]]) := by
  apply run_nextE rfl
  · unfold b_Frame_init
    repeat top_raiseB0
  rfl
theorem row_list {w : Nat} {R : Nat → Nat → Int} {y : Nat} (hw : w ≤ 1000) : bList [rowV w R y] = some (rowV w R y) := b_list (by simp; omega)
theorem map_idV (l : List V) : l.map (fun v => v) = l := by simp
section
variable {k : Str} {bits : Int} {a1 d1 a2 d2 H W n : Nat} {i1 i2 q1 q2 : Int}
variable (ha1 : 1 ≤ a1 ∧ a1 ≤ 2) (hd1 : 1 ≤ d1 ∧ d1 ≤ 2) (ha2 : 1 ≤ a2 ∧ a2 ≤ 2) (hd2 : 1 ≤ d2 ∧ d2 ≤ 2) (hH : 1 ≤ H ∧ H ≤ 6) (hW : 1 ≤ W ∧ W ≤ 6) (hn : n = 1 ∨ n = 2 ∨ n = 4 ∨ n = 8)
include ha1 hd1 ha2 hd2 hH hW hn
theorem right_all {qs : List Int} {u : Nat} {st : St} (hb : bits = 8 ∨ bits = 12) (hl : qs.length = n * n) (hq : Qs qs) (hu : Urn u st) :
    ∃ st', d__law_component_right [.ref u, frameV k bits H W (compV i1 a1 d1 q1) (compV i2 a2 d2 q2) n, .tup (qs.map V.int), .int bits, .int (n : Int)] st = some (.bool true, st') := by
  have gw := geo hW ha1 ha2 hn
  have gh := geo hH hd1 hd2 hn
  have ps := s_plane_size (k := k) (bits := bits) (i1 := i1) (i2 := i2) (q1 := q1) (q2 := q2) ha1 hd1 ha2 hd2 hH hW hn st
  have pd1 := s_padded1 (k := k) (bits := bits) (i1 := i1) (i2 := i2) (q1 := q1) (q2 := q2) ha1 hd1 ha2 hd2 hH hW hn
  have gi := grid_init (k := k) (bits := bits) (i1 := i1) (i2 := i2) (q1 := q1) (q2 := q2) ha1 hd1 ha2 hd2 hH hW hn
  have pc := fun (R : Nat → Nat → Int) (T : Nat → Nat → List Int) => @put_comp k bits a1 d1 a2 d2 H W n i1 i2 q1 q2 ha1 hd1 ha2 hd2 hH hW hn R qs T
  generalize eh : ceil (H * d2) (max d1 d2) = h at *
  generalize ew : ceil (W * a2) (max a1 a2) = w at *
  generalize ceil W (n * max a1 a2) * a1 = a0 at *
  generalize ceil H (n * max d1 d2) * d1 = n0 at *
  generalize ceil W (n * max a1 a2) * a2 = aa at *
  generalize ceil H (n * max d1 d2) * d2 = nn at *
  have hn8 : n ≤ 8 := by omega
  have bnw := fun x => beyond (w := w) (x := x) hn gw.1
  have bnh := fun x => beyond (w := h) (x := x) hn gh.1
  generalize ebw : ceil w n = bw at *
  generalize ebh : ceil h n = bh at *
  have pw : (2 : Int) ^ bits.toNat - 1 = 255 ∨ (2 : Int) ^ bits.toNat - 1 = 4095 := by rcases hb with rfl | rfl; exact .inl rfl; exact .inr rfl
  have pw2 : (2 : Int) ^ (bits - 1).toNat = 128 ∨ (2 : Int) ^ (bits - 1).toNat = 2048 := by rcases hb with rfl | rfl; exact .inl rfl; exact .inr rfl
  obtain ⟨R, st₁, e1, u1, _, hR⟩ := rows_ex (h := h) (w := w) (most := (2 : Int) ^ bits.toNat - 1) hu (by omega) (by omega) (by omega)
  have hBd : ∀ a b, Bd (R a b - 1 * 2 ^ (bits - 1).toNat) := fun a b => by
    have := hR a b
    constructor <;> omega
  have ok0 := fun y x => ok_all (h := h) (w := w) hBd hn x y hl hq
  have hex : ∃ T : Nat → Nat → List Int, ∀ y x, BlkOk n (linesV h w R (1 * 2 ^ (bits - 1).toNat) n x y n) qs (T y x) := ⟨fun y x => (ok0 y x).choose, fun y x => (ok0 y x).choose_spec⟩
  obtain ⟨T, ok⟩ := hex
  have hTl : ∀ y x, (T y x).length ≤ 1000000 := fun y x => by have := (ok y x).len; omega
  -- the plane, the grid
  have cl := cLoop_pure (x := "row") (d := dBlt bList (dCons (dLoc "row") (dNil))) (st := st₁) (g := fun v => v) (l := (List.range h).map fun (y : Nat) => rowV w R y)
    (ρ := restrict [] (((((bindR ["urn", "frame", "table", "bits", "n"] ([V.ref u, frameV k bits H W (compV i1 a1 d1 q1) (compV i2 a2 d2 q2) n, .tup (qs.map V.int), .int bits, .int (n : Int)] ++ [])).set "wide" (.int (w : Int))).set "high" (.int (h : Int))).set "middle" (.int (2 ^ (bits - 1).toNat))).set "rows" (rowsV h w R))) (by
      intro v hv
      obtain ⟨y, _, rfl⟩ := List.mem_map.mp hv
      have rl := row_list (w := w) (R := R) (y := y) (by omega)
      top_argsB)
  rw [map_idV] at cl
  have pi := plane_init (s := st₁) (a := .int (w : Int)) (b := .int (h : Int)) (c := rowsV h w R) rfl rfl rfl
  have pn : dNew 737 d_Plane_init (dCons (dLoc "wide") (dCons (dLoc "high") (dCons (dComp [] "row" (dLoc "rows") (dBlt bList (dCons (dLoc "row") (dNil)))) (dNil)))) (((((bindR ["urn", "frame", "table", "bits", "n"] ([V.ref u, frameV k bits H W (compV i1 a1 d1 q1) (compV i2 a2 d2 q2) n, .tup (qs.map V.int), .int bits, .int (n : Int)] ++ [])).set "wide" (.int (w : Int))).set "high" (.int (h : Int))).set "middle" (.int (2 ^ (bits - 1).toNat))).set "rows" (rowsV h w R)) st₁ = some (planeV h w R, st₁ ++ [.dead]) := by
    refine new_app ?_ pi
    top_argsB
  obtain ⟨s₂, ge, gf, G⟩ := gi (st₁ ++ [.dead])
  have gn : dNew 702 d_Grid_init (dCons (dLoc "frame") (dNil)) (((((bindR ["urn", "frame", "table", "bits", "n"] ([V.ref u, frameV k bits H W (compV i1 a1 d1 q1) (compV i2 a2 d2 q2) n, .tup (qs.map V.int), .int bits, .int (n : Int)] ++ [])).set "wide" (.int (w : Int))).set "high" (.int (h : Int))).set "middle" (.int (2 ^ (bits - 1).toNat))).set "rows" (rowsV h w R)) (st₁ ++ [.dead]) = some (gridV (.int ((n : Int) * n)) ((st₁ ++ [MO.dead]).length + 1), s₂.set (st₁ ++ [MO.dead]).length .dead) := by
    refine v_new (st₁ := st₁ ++ [.dead]) ?_ ge gf
    top_argsB
  have G0 := G.set (L := (st₁ ++ [MO.dead]).length) (m := .dead) (by omega)
  generalize (st₁ ++ [MO.dead]).length + 1 = g at *
  obtain ⟨s₃, pe, G3⟩ := pc R T (mv := .int ((n : Int) * n)) hb (h := h) (w := w) (bw := bw) (bh := bh) rfl rfl ebw ebh (by omega) (by omega) (by omega) (by omega) (by omega) (by omega) ok hTl G0
  have ok' : ∀ y x, BlkOk n (linesV h w R (2 ^ (bits - 1).toNat) n x y n) qs (T y x) := by simpa only [Int.one_mul] using ok
  have nr := ne_rows h w R
  have pd := pd1 s₃
  have itx := iter_rng0 (b := (aa : Int)) (n := aa) rfl (by omega)
  have ity := iter_rng0 (b := (nn : Int)) (n := nn) rfl (by omega)
  have ee : oEq (.lst []) (.lst []) = some (.bool true) := eq_ints []
  have nn0 : oIsNotNone .none .none = some (.bool false) := rfl
  obtain ⟨l, z0, z1⟩ := grid_zero G3
  obtain ⟨ρ', st', e, j0, j1, j2, j3, j4, j5, j6, j7, j8, j9⟩ := sLoop_range0 (x := "y") (n := nn) (st := s₃)
    (ρ := (((((((((bindR ["urn", "frame", "table", "bits", "n"] ([V.ref u, frameV k bits H W (compV i1 a1 d1 q1) (compV i2 a2 d2 q2) n, .tup (qs.map V.int), .int bits, .int (n : Int)] ++ [])).set "wide" (.int (w : Int))).set "high" (.int (h : Int))).set "middle" (.int (2 ^ (bits - 1).toNat))).set "rows" (rowsV h w R)).set "grid" (gridV (.int ((n : Int) * n)) g)).set "plane" (planeV h w R)).set "across" (.int (aa : Int))).set "down" (.int (nn : Int))))
    (I := fun j ρ s => s = s₃ ∧ (ρ "rows" = some (rowsV h w R) ∧ ρ "n" = some (.int (n : Int)) ∧ ρ "middle" = some (.int (2 ^ (bits - 1).toNat)) ∧ ρ "grid" = some (gridV (.int ((n : Int) * n)) g) ∧ ρ "wide" = some (.int (w : Int)) ∧ ρ "high" = some (.int (h : Int)) ∧ ρ "table" = some (.tup (qs.map V.int)) ∧ ρ "plane" = some (planeV h w R) ∧ ρ "across" = some (.int (aa : Int))))
    (b := (sSeq (sFor "x" (dBlt bRange (dCons (dLoc "across") (dNil))) (sSeq (sAsg "block" (dCall d__law_block (dCons (dLoc "rows") (dCons (dLoc "x") (dCons (dLoc "y") (dCons (dLoc "n") (dCons (dLoc "middle") (dNil)))))))) (sSeq (sAsg "told" (dItem (dItem (dItem (dAttr "planes" (dLoc "grid")) (dVal (.int 1))) (dLoc "y")) (dLoc "x"))) (sSeq (sIf (tOr (dTest (dBin oGe (dBin oMul (dLoc "x") (dLoc "n")) (dLoc "wide"))) (dTest (dBin oGe (dBin oMul (dLoc "y") (dLoc "n")) (dLoc "high")))) (sSeq (sIf (dTest (dBin oIsNotNone (dLoc "told") (dVal .none))) (sSeq (sRet (dVal (.bool false))) (sNil)) (sNil)) (sNil)) (sSeq (sIf (tOr (tNot (dTest (dCall d__law_is_block (dCons (dLoc "told") (dCons (dLoc "block") (dCons (dLoc "table") (dCons (dLoc "n") (dNil)))))))) (dTest (dBin oNe (dLoc "told") (dCall d_coded_block (dCons (dLoc "plane") (dCons (dLoc "x") (dCons (dLoc "y") (dCons (dLoc "n") (dCons (dLoc "middle") (dCons (dLoc "table") (dNil))))))))))) (sSeq (sRet (dVal (.bool false))) (sNil)) (sNil)) (sNil))) (sNil))))) (sNil)))
    ⟨rfl, ⟨by top_caughtB, by top_caughtB, by top_caughtB, by top_caughtB, by top_caughtB, by top_caughtB, by top_caughtB, by top_caughtB, by top_caughtB⟩⟩ (by
      rintro y ρ s hy ⟨rfl, h1, h2, h3, h4, h5, h6, h7, h8, h9⟩
      obtain ⟨ρ₂, s₂, e₂, j0, j1, j2, j3, j4, j5, j6, j7, j8, j9, j10⟩ := sLoop_range0 (x := "x") (n := aa) (st := s) (ρ := ρ.set "y" (.int (y : Int)))
        (I := fun j ρ s' => s' = s ∧ (ρ "rows" = some (rowsV h w R) ∧ ρ "n" = some (.int (n : Int)) ∧ ρ "middle" = some (.int (2 ^ (bits - 1).toNat)) ∧ ρ "grid" = some (gridV (.int ((n : Int) * n)) g) ∧ ρ "wide" = some (.int (w : Int)) ∧ ρ "high" = some (.int (h : Int)) ∧ ρ "table" = some (.tup (qs.map V.int)) ∧ ρ "plane" = some (planeV h w R) ∧ ρ "across" = some (.int (aa : Int)) ∧ ρ "y" = some (.int (y : Int))))
        (b := (sSeq (sAsg "block" (dCall d__law_block (dCons (dLoc "rows") (dCons (dLoc "x") (dCons (dLoc "y") (dCons (dLoc "n") (dCons (dLoc "middle") (dNil)))))))) (sSeq (sAsg "told" (dItem (dItem (dItem (dAttr "planes" (dLoc "grid")) (dVal (.int 1))) (dLoc "y")) (dLoc "x"))) (sSeq (sIf (tOr (dTest (dBin oGe (dBin oMul (dLoc "x") (dLoc "n")) (dLoc "wide"))) (dTest (dBin oGe (dBin oMul (dLoc "y") (dLoc "n")) (dLoc "high")))) (sSeq (sIf (dTest (dBin oIsNotNone (dLoc "told") (dVal .none))) (sSeq (sRet (dVal (.bool false))) (sNil)) (sNil)) (sNil)) (sSeq (sIf (tOr (tNot (dTest (dCall d__law_is_block (dCons (dLoc "told") (dCons (dLoc "block") (dCons (dLoc "table") (dCons (dLoc "n") (dNil)))))))) (dTest (dBin oNe (dLoc "told") (dCall d_coded_block (dCons (dLoc "plane") (dCons (dLoc "x") (dCons (dLoc "y") (dCons (dLoc "n") (dCons (dLoc "middle") (dCons (dLoc "table") (dNil))))))))))) (sSeq (sRet (dVal (.bool false))) (sNil)) (sNil)) (sNil))) (sNil)))))
        ⟨rfl, ⟨by top_caughtB, by top_caughtB, by top_caughtB, by top_caughtB, by top_caughtB, by top_caughtB, by top_caughtB, by top_caughtB, by top_caughtB, by top_caughtB⟩⟩ (by
          rintro x ρ s' hx ⟨rfl, h1, h2, h3, h4, h5, h6, h7, h8, h9, h10⟩
          have lb := s_law_block (R := R) (m := 2 ^ (bits - 1).toNat) (h := h) (w := w) (n := n) (x := x) (y := y) (by omega) (by omega) (by omega) (by omega) hn8 (by omega) (by omega) s'
          have cb := s_coded (R := R) (m := 2 ^ (bits - 1).toNat) (h := h) (w := w) (n := n) (x := x) (y := y) (by omega) (by omega) (by omega) (by omega) hn8 (by omega) (by omega) (ok' y x) s'
          have rt := (ok' y x).right s'
          have nt := ne_ints (T y x)
          obtain ⟨pp, r, g1, gp, g2, g3⟩ := grid_get G3 (by omega) (by omega) hy hx
          have bx := bnw x
          have by' := bnh y
          have cx : ((x * n : Nat) : Int) = (x : Int) * (n : Int) := by simp
          have cy : ((y * n : Nat) : Int) = (y : Int) * (n : Int) := by simp
          by_cases hxb : x < bw
          · have t1 : decide ((x : Int) * (n : Int) ≥ (w : Int)) = false := decide_eq_false (by have : ¬ w ≤ x * n := fun z => bx.mp z hxb; omega)
            by_cases hyb : y < bh
            · have t2 : decide ((y : Int) * (n : Int) ≥ (h : Int)) = false := decide_eq_false (by have : ¬ h ≤ y * n := fun z => by'.mp z hyb; omega)
              rw [if_pos ⟨hyb, hxb⟩] at g3
              apply exI
              · repeat top_raiseB0
              exact ⟨rfl, ⟨by top_caughtB, by top_caughtB, by top_caughtB, by top_caughtB, by top_caughtB, by top_caughtB, by top_caughtB, by top_caughtB, by top_caughtB, by top_caughtB⟩⟩
            · have t2 : decide ((y : Int) * (n : Int) ≥ (h : Int)) = true := decide_eq_true (by have : h ≤ y * n := by'.mpr hyb; omega)
              rw [if_neg (fun z => hyb z.1)] at g3
              apply exI
              · repeat top_raiseB0
              exact ⟨rfl, ⟨by top_caughtB, by top_caughtB, by top_caughtB, by top_caughtB, by top_caughtB, by top_caughtB, by top_caughtB, by top_caughtB, by top_caughtB, by top_caughtB⟩⟩
          · have t1 : decide ((x : Int) * (n : Int) ≥ (w : Int)) = true := decide_eq_true (by have : w ≤ x * n := bx.mpr hxb; omega)
            rw [if_neg (fun z => hxb z.2)] at g3
            apply exI
            · repeat top_raiseB0
            exact ⟨rfl, ⟨by top_caughtB, by top_caughtB, by top_caughtB, by top_caughtB, by top_caughtB, by top_caughtB, by top_caughtB, by top_caughtB, by top_caughtB, by top_caughtB⟩⟩)
      subst j0
      apply exI
      · repeat top_raiseB0
      exact ⟨rfl, ⟨by top_caughtB, by top_caughtB, by top_caughtB, by top_caughtB, by top_caughtB, by top_caughtB, by top_caughtB, by top_caughtB, by top_caughtB⟩⟩)
  subst j0
  refine ⟨st', ?_⟩
  apply run_retE rfl
  · unfold b__law_component_right
    repeat top_raiseB0
  all_goals rfl
end
end
section
theorem v_neDict {ρ : Rho} {st st₁ st₂ : St} {a b : Den V} {u w : V} {c : Bool} (ha : a ρ st = some (u, st₁)) (hb : b ρ st₁ = some (w, st₂)) (h : neDict u w st₂ = some c) : tNeDict a b ρ st = some (c, st₂) := by
  simp only [tNeDict, ha, hb, h, Option.bind_some, Option.map_some]
local macro_rules | `(tactic| top_raise0) => `(tactic| first | ((with_reducible apply v_orT'); (focus top_argsB); top_raiseB) | ((with_reducible first | apply v_chain | apply v_neDict) <;> top_argsB))
local macro_rules | `(tactic| top_argsB) => `(tactic| ((with_reducible apply eqA); with_reducible assumption))
local macro_rules | `(tactic| top_raiseB0) => `(tactic| ((with_reducible first | apply q_setA | apply q_put) <;> top_argsB))
noncomputable def hun (q : Int) : Int := if q < 50 then (5000 : Int).fdiv q else 200 - 2 * q
theorem s_scale {q : Int} (h : 1 ≤ q ∧ q ≤ 100) (st : St) : d_quality_scale [.int q] st = some (.int (hun q), st) := by
  have e : max 1 (min 100 q) = q := by lia
  by_cases hq : q < 50
  · apply run_retE rfl
    · unfold b_quality_scale
      repeat top_raiseB0
    · unfold hun; rw [if_pos hq, e]
    · rfl
  · apply run_retE rfl
    · unfold b_quality_scale
      repeat top_raiseB0
    · unfold hun; rw [if_neg hq, e]
    · rfl
theorem s_hun {q : Int} (h : 1 ≤ q ∧ q ≤ 100) (st : St) : d__law_hundredths [.int q] st = some (.int (hun q), st) := by
  by_cases hq : q < 50
  · apply run_retE rfl
    · unfold b__law_hundredths
      repeat top_raiseB0
    · unfold hun; rw [if_pos hq]
    · rfl
  · apply run_retE rfl
    · unfold b__law_hundredths
      repeat top_raiseB0
    · unfold hun; rw [if_neg hq]
    · rfl
theorem hun_small {q : Int} (h : 1 ≤ q ∧ q ≤ 100) : (hun q).natAbs < 2 ^ 64 := by
  unfold hun
  split
  · rw [Int.fdiv_eq_ediv_of_nonneg _ (by lia)]
    have h1 := Int.ediv_nonneg (a := 5000) (b := q) (by decide) (by lia)
    have h2 := Int.ediv_le_self (a := 5000) q (by decide)
    lia
  · lia
noncomputable def divs (bs : List Int) (q most : Int) : List Int := bs.map fun b => min most (max 1 ((b * hun q + 50).fdiv 100))
theorem s_scaled {bs : List Int} {q most : Int} (hl : bs.length ≤ 1000) (h : 1 ≤ q ∧ q ≤ 100) (hm : 1 ≤ most) (st : St) : d_scaled_table [.tup (bs.map V.int), .int q, .int most] st = some (.tup ((divs bs q most).map V.int), st) := by
  have sc := s_scale h st
  have cl := cLoop_ints (x := "one") (st := st) (l := bs) (g := fun b => V.int (max 1 (min most ((b * hun q + 50).fdiv 100)))) (ρ := restrict ["hundredths","most"] (bindR ["qtable", "hundredths", "most"] ([.tup (bs.map V.int), .int (hun q), .int most] ++ [])))
    (d := (dBlt bMax2 (dCons (dVal (.int 1)) (dCons (dBlt bMin2 (dCons (dLoc "most") (dCons (dBin oDiv (dBin oAdd (dBin oMul (dLoc "one") (dLoc "hundredths")) (dVal (.int 50))) (dVal (.int 100))) (dNil)))) (dNil))))) (by
      intro b hb
      have om := o_mulr (i := b) (hun_small h)
      top_argsB)
  have e : bs.map (fun b => V.int (max 1 (min most ((b * hun q + 50).fdiv 100)))) = (divs bs q most).map V.int := by
    unfold divs
    rw [List.map_map]
    refine List.map_congr_left fun b _ => ?_
    simp only [Function.comp_apply]; congr 1; lia
  rw [e] at cl
  have ln : (bs.map V.int).length ≤ 1000000 := by simp; lia
  have ln' : ((divs bs q most).map V.int).length ≤ 1000000 := by simp [divs]; lia
  have s1 : d_scaled_by [.tup (bs.map V.int), .int (hun q), .int most] st = some (.tup ((divs bs q most).map V.int), st) := by
    apply run_retE rfl
    · unfold b_scaled_by
      repeat top_raiseB0
    all_goals rfl
  apply run_retE rfl
  · unfold b_scaled_table
    repeat top_raiseB0
  all_goals rfl
theorem s_divs {bs : List Int} {q most : Int} (hl : bs.length ≤ 1000) (h : 1 ≤ q ∧ q ≤ 100) (st : St) : d__law_divisors [.tup (bs.map V.int), .int q, .int most] st = some (.tup ((divs bs q most).map V.int), st) := by
  have sc := s_hun h st
  have cl := cLoop_ints (x := "one") (st := st) (l := bs) (g := fun b => V.int (min most (max 1 ((b * hun q + 50).fdiv 100)))) (ρ := restrict ["most","quality"] (bindR ["base", "quality", "most"] ([.tup (bs.map V.int), .int q, .int most] ++ [])))
    (d := (dBlt bMin2 (dCons (dLoc "most") (dCons (dBlt bMax2 (dCons (dVal (.int 1)) (dCons (dBin oDiv (dBin oAdd (dBin oMul (dLoc "one") (dCall d__law_hundredths (dCons (dLoc "quality") (dNil)))) (dVal (.int 50))) (dVal (.int 100))) (dNil)))) (dNil))))) (by
      intro b hb
      have om := o_mulr (i := b) (hun_small h)
      top_argsB)
  have e : bs.map (fun b => V.int (min most (max 1 ((b * hun q + 50).fdiv 100)))) = (divs bs q most).map V.int := by
    unfold divs
    rw [List.map_map]; rfl
  rw [e] at cl
  have ln : (bs.map V.int).length ≤ 1000000 := by simp; lia
  have ln' : ((divs bs q most).map V.int).length ≤ 1000000 := by simp [divs]; lia
  apply run_retE rfl
  · unfold b__law_divisors
    repeat top_raiseB0
  all_goals rfl
theorem divs_qs {bs : List Int} {q most : Int} (hm : 1 ≤ most ∧ most ≤ 65535) : Qs (divs bs q most) := by
  intro d hd
  obtain ⟨b, _, rfl⟩ := List.mem_map.mp hd
  lia
theorem base_ex {n : Nat} (hn : n = 1 ∨ n = 2 ∨ n = 4 ∨ n = 8) : ∃ L C : List Int, L.length = n * n ∧ C.length = n * n ∧ (∀ st, d_luma [.int (n : Int)] st = some (.tup (L.map V.int), st)) ∧ (∀ st, d_chroma [.int (n : Int)] st = some (.tup (C.map V.int), st)) := by
  rcases hn with rfl | rfl | rfl | rfl
  · exact ⟨lumas1, chromas1, rfl, rfl, ev_luma1, ev_chroma1⟩
  · exact ⟨lumas2, chromas2, rfl, rfl, ev_luma2, ev_chroma2⟩
  · exact ⟨lumas4, chromas4, rfl, rfl, ev_luma4, ev_chroma4⟩
  · exact ⟨lumas8, chromas8, rfl, rfl, ev_luma8, ev_chroma8⟩
end
section
theorem v_dict0A {ρ : Rho} {s T : St} {m : MO} : dDict0 ρ (s ++ (m :: T)) = some (.ref (s.length + (T.length + 1)), s ++ (m :: (T ++ [.dict []]))) := by
  rw [v_dict0, List.append_assoc, List.cons_append, List.length_append, List.length_cons]
noncomputable abbrev tablesV (L : Nat) : V := .obj 382 [("quant", .ref (L + (0 + 1))), ("codes", .ref (L + (0 + 1 + 1))), ("conditioning", .ref (L + (0 + 1 + 1 + 1)))]
local macro_rules | `(tactic| top_raise0) => `(tactic| first | with_reducible exact v_dict0A)
local macro_rules | `(tactic| top_argsB) => `(tactic| ((with_reducible apply eqA); with_reducible assumption))
local macro_rules | `(tactic| top_raiseB0) => `(tactic| ((with_reducible first | apply q_setA | apply q_put) <;> top_argsB))
theorem tables_init {s : St} : d_Tables_init [.self 382 s.length] (s ++ [.fields []]) = some (.none, s ++ [.fields [("quant", .ref (s.length + (0 + 1))), ("codes", .ref (s.length + (0 + 1 + 1))), ("conditioning", .ref (s.length + (0 + 1 + 1 + 1)))], .dict [], .dict [], .dict []]) := by
  apply run_nextE rfl
  · unfold b_Tables_init
    repeat top_raiseB0
  rfl
noncomputable abbrev setV (k : Str) (q : Int) : V := .obj 767 [("kind", .str k), ("quality", .int q), ("sampling", .none), ("interval", .int 0), ("optimise", .bool false), ("scans", .none), ("n", .int 8), ("model", .str "ycc")]
local macro_rules | `(tactic| top_raise0) => `(tactic| ((with_reducible apply v_chain) <;> top_argsB))
theorem set_init {s : St} {k : Str} {q : Int} (hk : oNotIn (.str k) vKINDS = some (.bool false)) (hq : 1 ≤ q ∧ q ≤ 100) : d_Settings_init [.self 767 s.length, .str k, .int q] (s ++ [.fields []]) = some (.none, s ++ [.fields [("kind", .str k), ("quality", .int q), ("sampling", .none), ("interval", .int 0), ("optimise", .bool false), ("scans", .none), ("n", .int 8), ("model", .str "ycc")]]) := by
  have c1 : oLe (.int 1) (.int q) = some (.bool true) := by rw [o_le, decide_eq_true hq.1]
  have c2 : oLe (.int q) (.int 100) = some (.bool true) := by rw [o_le, decide_eq_true hq.2]
  have c3 : oLe (.int 0) (.int 0) = some (.bool true) := rfl
  have c4 : oLe (.int 0) (.int 65535) = some (.bool true) := rfl
  apply run_nextE rfl
  · unfold b_Settings_init
    repeat top_raiseB0
  rfl
theorem kv1 (a : V) : kvPut [] 0 a = [(0, a)] := rfl
theorem kv2 (a b : V) : kvPut [(0, a)] 1 b = [(0, a), (1, b)] := by simp [kvPut]
section
variable {k : Str} {bits : Int} {a1 d1 a2 d2 H W n : Nat} {q most : Int} {L C : List Int}
theorem s_tables (hb : bits = 8 ∧ most = 255 ∨ bits = 12 ∧ most = 65535) (hq : 1 ≤ q ∧ q ≤ 100) (hL : L.length ≤ 1000) (hC : C.length ≤ 1000) (eL : ∀ st, d_luma [.int (n : Int)] st = some (.tup (L.map V.int), st)) (eC : ∀ st, d_chroma [.int (n : Int)] st = some (.tup (C.map V.int), st)) (st : St) :
    d_made_tables [frameV k bits H W (compV 1 a1 d1 0) (compV 2 a2 d2 1) n, setV k q] st = some (tablesV st.length, st ++ [.dead, .dict [(0, .tup ((divs L q most).map V.int)), (1, .tup ((divs C q most).map V.int))], .dict [], .dict []]) := by
  have tn : ∀ ρ, dNew 382 d_Tables_init dNil ρ st = some (tablesV st.length, st ++ [.dead, .dict [], .dict [], .dict []]) := fun ρ => new_app v_nil tables_init
  have l1 := eL (st ++ [.dead, .dict [], .dict [], .dict []])
  have l2 := eC (st ++ [.dead, .dict [(0, .tup ((divs L q most).map V.int))], .dict [], .dict []])
  have m1 : 1 ≤ most := by lia
  have x1 := s_scaled hL hq m1 (st ++ [.dead, .dict [], .dict [], .dict []])
  have x2 := s_scaled hC hq m1 (st ++ [.dead, .dict [(0, .tup ((divs L q most).map V.int))], .dict [], .dict []])
  have p1 : putItem (st.length + (0 + 1)) 0 (.tup ((divs L q most).map V.int)) (st ++ [.dead, .dict [], .dict [], .dict []]) = some (st ++ [.dead, .dict [(0, .tup ((divs L q most).map V.int))], .dict [], .dict []]) := by
    have g : (st ++ [MO.dead, .dict [], .dict [], .dict []])[st.length + (0 + 1)]? = some (.dict []) := by rw [List.getElem?_append_right (by lia)]; simp
    simp only [putItem, g]
    rw [if_pos (by simp), List.set_append_right _ _ (by lia), kv1]; simp
  have p2 : putItem (st.length + (0 + 1)) 1 (.tup ((divs C q most).map V.int)) (st ++ [.dead, .dict [(0, .tup ((divs L q most).map V.int))], .dict [], .dict []]) = some (st ++ [.dead, .dict [(0, .tup ((divs L q most).map V.int)), (1, .tup ((divs C q most).map V.int))], .dict [], .dict []]) := by
    have g : (st ++ [MO.dead, .dict [(0, .tup ((divs L q most).map V.int))], .dict [], .dict []])[st.length + (0 + 1)]? = some (.dict [(0, .tup ((divs L q most).map V.int))]) := by rw [List.getElem?_append_right (by lia)]; simp
    simp only [putItem, g]
    rw [if_pos (by simp), List.set_append_right _ _ (by lia), kv2]; simp
  rcases hb with ⟨rfl, rfl⟩ | ⟨rfl, rfl⟩
  · have tn := tn (((bindR ["frame", "settings"] ([frameV k 8 H W (compV 1 a1 d1 0) (compV 2 a2 d2 1) n, setV k q] ++ []))).set "most" (.int 255))
    apply run_retE rfl
    · unfold b_made_tables
      repeat top_raiseB0
    all_goals rfl
  · have tn := tn (((bindR ["frame", "settings"] ([frameV k 12 H W (compV 1 a1 d1 0) (compV 2 a2 d2 1) n, setV k q] ++ []))).set "most" (.int 65535))
    apply run_retE rfl
    · unfold b_made_tables
      repeat top_raiseB0
    all_goals rfl
end
theorem ne_dict {i j : Nat} {st : St} {a b : List Int} (hi : st[i]? = some (.dict [(0, .tup (a.map V.int)), (1, .tup (b.map V.int))])) (hj : st[j]? = some (.dict [(0, .tup (a.map V.int)), (1, .tup (b.map V.int))])) : neDict (.ref i) (.ref j) st = some false := by
  have l0 : List.lookup (0 : Int) [((0 : Int), V.tup (a.map V.int)), (1, .tup (b.map V.int))] = some (.tup (a.map V.int)) := rfl
  have l1 : List.lookup (1 : Int) [((0 : Int), V.tup (a.map V.int)), (1, .tup (b.map V.int))] = some (.tup (b.map V.int)) := rfl
  simp only [neDict, hi, hj, dictHits, l0, l1, eqB_intsT, Option.bind_some, Option.map_some, Bool.and_self, List.length_cons, List.length_nil, beq_self_eq_true, Bool.not_true]
end
section
local macro_rules | `(tactic| top_raise0) => `(tactic| first | ((with_reducible apply v_neDict) <;> top_argsB) | (with_reducible first | exact comp_init rfl rfl rfl rfl | exact frame_init rfl rfl rfl rfl rfl rfl | (refine set_init ?_ ?_ <;> assumption)))
local macro_rules | `(tactic| top_argsB) => `(tactic| first | ((with_reducible apply eqA); with_reducible assumption) | ((with_reducible apply new_app) <;> top_argsB))
noncomputable abbrev b_turn : SDen := (sSeq (sAsg "urn" (dCall d__law_urn (dCons (dLoc "script") (dCons (dLoc "at") (dNil))))) (sSeq (sUnpR ["n", "bits", "quality"] (dTup (dCons (dItem (dList (dCons (dVal (.int 2)) (dCons (dVal (.int 1)) (dCons (dVal (.int 2)) (dCons (dVal (.int 4)) (dCons (dVal (.int 8)) (dNil))))))) (dCall d__law_from (dCons (dLoc "urn") (dCons (dVal (.int 5)) (dNil))))) (dCons (dItem (dList (dCons (dVal (.int 8)) (dCons (dVal (.int 12)) (dNil)))) (dCall d__law_from (dCons (dLoc "urn") (dCons (dVal (.int 2)) (dNil))))) (dCons (dBin oAdd (dVal (.int 1)) (dCall d__law_from (dCons (dLoc "urn") (dCons (dVal (.int 100)) (dNil))))) (dNil)))))) (sSeq (sOwn "pair" (dCons (dNew 603 d_Component_init (dCons (dVal (.int 1)) (dCons (dBin oAdd (dVal (.int 1)) (dCall d__law_from (dCons (dLoc "urn") (dCons (dVal (.int 2)) (dNil))))) (dCons (dBin oAdd (dVal (.int 1)) (dCall d__law_from (dCons (dLoc "urn") (dCons (dVal (.int 2)) (dNil))))) (dCons (dVal (.int 0)) (dNil)))))) (dNil))) (sSeq (sPush "pair" (dNew 603 d_Component_init (dCons (dVal (.int 2)) (dCons (dBin oAdd (dVal (.int 1)) (dCall d__law_from (dCons (dLoc "urn") (dCons (dVal (.int 2)) (dNil))))) (dCons (dBin oAdd (dVal (.int 1)) (dCall d__law_from (dCons (dLoc "urn") (dCons (dVal (.int 2)) (dNil))))) (dCons (dVal (.int 1)) (dNil))))))) (sSeq (sAsg "kind" (dIf (dTest (dBin oEq (dLoc "bits") (dVal (.int 8)))) (dVal (.str "baseline")) (dVal (.str "extended")))) (sFreeze "pair" (sSeq (sAsg "frame" (dNew 669 d_Frame_init (dCons (dLoc "kind") (dCons (dLoc "bits") (dCons (dBin oAdd (dVal (.int 1)) (dCall d__law_from (dCons (dLoc "urn") (dCons (dVal (.int 6)) (dNil))))) (dCons (dBin oAdd (dVal (.int 1)) (dCall d__law_from (dCons (dLoc "urn") (dCons (dVal (.int 6)) (dNil))))) (dCons (dLoc "pair") (dCons (dLoc "n") (dNil))))))))) (sSeq (sAsg "told" (dCall d_made_tables (dCons (dLoc "frame") (dCons (dNew 767 d_Settings_init (dCons (dLoc "kind") (dCons (dLoc "quality") (dNil)))) (dNil))))) (sSeq (sAsg "most" (dIf (dTest (dBin oEq (dLoc "bits") (dVal (.int 8)))) (dVal (.int 255)) (dVal (.int 65535)))) (sSeq (sAsg "due" (dDict2 0 1 (dCall d__law_divisors (dCons (dCall d_luma (dCons (dLoc "n") (dNil))) (dCons (dLoc "quality") (dCons (dLoc "most") (dNil))))) (dCall d__law_divisors (dCons (dCall d_chroma (dCons (dLoc "n") (dNil))) (dCons (dLoc "quality") (dCons (dLoc "most") (dNil))))))) (sSeq (sIf (tOr (tNeDict (dAttr "quant" (dLoc "told")) (dLoc "due")) (tNot (dTest (dCall d__law_component_right (dCons (dLoc "urn") (dCons (dLoc "frame") (dCons (dItem (dLoc "due") (dVal (.int 1))) (dCons (dLoc "bits") (dCons (dLoc "n") (dNil)))))))))) (sSeq (sRet (dVal (.bool false))) (sNil)) (sNil)) (sNil))))))))))))
/-- one turn of the law's loop -/
theorem turn {ns : List Int} (hl : ns.length ≤ 1000) {k : Nat} (hk : k ≤ 1000) {ρ : Rho} {st : St} (h : ρ "script" = some (.lst (ns.map V.int))) :
    ∃ ρ' st', b_turn (ρ.set "at" (.int (k : Int))) st = some (.next, ρ', st') ∧ ρ' "script" = some (.lst (ns.map V.int)) := by
  obtain ⟨a, b, e0⟩ := urn_ex hl hk st
  have u0 : Urn st.length (st ++ [.lst [.int a, .int b]]) := ⟨a, b, by simp⟩
  generalize st.length = u at *
  obtain ⟨g1, s1, g10, g11, f1, u1, -⟩ := from_ex (many := 5) u0 (by decide) (by decide)
  obtain ⟨g2, s2, g20, g21, f2, u2, -⟩ := from_ex (many := 2) u1 (by decide) (by decide)
  obtain ⟨g3, s3, g30, g31, f3, u3, -⟩ := from_ex (many := 100) u2 (by decide) (by decide)
  obtain ⟨g4, s4, g40, g41, f4, u4, -⟩ := from_ex (many := 2) u3 (by decide) (by decide)
  obtain ⟨g5, s5, g50, g51, f5, u5, -⟩ := from_ex (many := 2) u4 (by decide) (by decide)
  obtain ⟨g6, s6, g60, g61, f6, u6, -⟩ := from_ex (many := 2) (u5.app [.dead]) (by decide) (by decide)
  obtain ⟨g7, s7, g70, g71, f7, u7, -⟩ := from_ex (many := 2) u6 (by decide) (by decide)
  obtain ⟨g8, s8, g80, g81, f8, u8, -⟩ := from_ex (many := 6) (u7.app [.dead]) (by decide) (by decide)
  obtain ⟨g9, s9, g90, g91, f9, u9, -⟩ := from_ex (many := 6) u8 (by decide) (by decide)
  obtain ⟨n, hn, n1⟩ : ∃ n : Nat, (n = 1 ∨ n = 2 ∨ n = 4 ∨ n = 8) ∧ ∀ st, vItem (.lst [.int 2, .int 1, .int 2, .int 4, .int 8]) (.int g1) st = some (.int (n : Int)) := by
    rcases (by lia : g1 = 0 ∨ g1 = 1 ∨ g1 = 2 ∨ g1 = 3 ∨ g1 = 4) with rfl | rfl | rfl | rfl | rfl
    · exact ⟨2, by decide, fun _ => rfl⟩
    · exact ⟨1, by decide, fun _ => rfl⟩
    · exact ⟨2, by decide, fun _ => rfl⟩
    · exact ⟨4, by decide, fun _ => rfl⟩
    · exact ⟨8, by decide, fun _ => rfl⟩
  have n1 := n1 s1
  obtain ⟨bits, most, kind, hbm, n2, hki, tk, tm⟩ : ∃ (bits most : Int) (kind : Str), (bits = 8 ∧ most = 255 ∨ bits = 12 ∧ most = 65535) ∧ vItem (.lst [.int 8, .int 12]) (.int g2) s2 = some (.int bits) ∧ oNotIn (.str kind) vKINDS = some (.bool false) ∧
      (∀ ρ st, ρ "bits" = some (.int bits) → dIf (dTest (dBin oEq (dLoc "bits") (dVal (.int 8)))) (dVal (.str "baseline")) (dVal (.str "extended")) ρ st = some (.str kind, st)) ∧
      ∀ ρ st, ρ "bits" = some (.int bits) → dIf (dTest (dBin oEq (dLoc "bits") (dVal (.int 8)))) (dVal (.int 255)) (dVal (.int 65535)) ρ st = some (.int most, st) := by
    rcases (by lia : g2 = 0 ∨ g2 = 1) with rfl | rfl
    · refine ⟨8, 255, "baseline", .inl ⟨rfl, rfl⟩, rfl, by kernel_rfl, fun ρ st hb => ?_, fun ρ st hb => ?_⟩
      · top_argsB
      · top_argsB
    · refine ⟨12, 65535, "extended", .inr ⟨rfl, rfl⟩, rfl, by kernel_rfl, fun ρ st hb => ?_, fun ρ st hb => ?_⟩
      · top_argsB
      · top_argsB
  have hq : 1 ≤ 1 + g3 ∧ 1 + g3 ≤ 100 := by lia
  obtain ⟨L, C, lL, lC, eL, eC⟩ := base_ex hn
  have nn : n * n ≤ 64 := Nat.le_trans (Nat.mul_le_mul (by lia : n ≤ 8) (by lia : n ≤ 8)) (by decide)
  -- the made tables
  have mt := s_tables (k := kind) (a1 := (1 + g4).toNat) (d1 := (1 + g5).toNat) (a2 := (1 + g6).toNat) (d2 := (1 + g7).toNat) (H := (1 + g8).toNat) (W := (1 + g9).toNat) (n := n) hbm hq (by lia) (by lia) eL eC (s9 ++ [.dead] ++ [.dead])
  have hT : ∀ g : Int, 0 ≤ g → (((1 + g).toNat : Nat) : Int) = 1 + g := fun g hg => by lia
  rw [hT g4 g40, hT g5 g50, hT g6 g60, hT g7 g70, hT g8 g80, hT g9 g90] at mt
  generalize eS : (s9 ++ [MO.dead] ++ [MO.dead]) ++ [.dead, .dict [(0, .tup ((divs L (1 + g3) most).map V.int)), (1, .tup ((divs C (1 + g3) most).map V.int))], .dict [], .dict []] = S at mt
  have d1 := s_divs (most := most) (by lia : L.length ≤ 1000) hq S
  have d2 := s_divs (most := most) (by lia : C.length ≤ 1000) hq S
  have eL' := eL S
  have eC' := eC S
  have uS : Urn u S := by rw [← eS]; exact ((u9.app _).app _).app _
  have hi : (S ++ [.dict (kvPut (kvPut [] 0 (.tup ((divs L (1 + g3) most).map V.int))) 1 (.tup ((divs C (1 + g3) most).map V.int)))])[(s9 ++ [MO.dead] ++ [MO.dead]).length + (0 + 1)]? = some (.dict [(0, .tup ((divs L (1 + g3) most).map V.int)), (1, .tup ((divs C (1 + g3) most).map V.int))]) := by
    rw [← eS, List.append_assoc, List.getElem?_append_right (by lia)]; simp
  have hj : (S ++ [.dict (kvPut (kvPut [] 0 (.tup ((divs L (1 + g3) most).map V.int))) 1 (.tup ((divs C (1 + g3) most).map V.int)))])[S.length]? = some (.dict [(0, .tup ((divs L (1 + g3) most).map V.int)), (1, .tup ((divs C (1 + g3) most).map V.int))]) := by
    rw [kv1, kv2]; simp
  have nd := ne_dict hi hj
  have i1 : vItem (.ref S.length) (.int 1) (S ++ [.dict (kvPut (kvPut [] 0 (.tup ((divs L (1 + g3) most).map V.int))) 1 (.tup ((divs C (1 + g3) most).map V.int)))]) = some (.tup ((divs C (1 + g3) most).map V.int)) := by
    simp only [vItem, hj]; rfl
  obtain ⟨s', cr⟩ := right_all (k := kind) (bits := bits) (a1 := (1 + g4).toNat) (d1 := (1 + g5).toNat) (a2 := (1 + g6).toNat) (d2 := (1 + g7).toNat) (H := (1 + g8).toNat) (W := (1 + g9).toNat) (n := n) (i1 := 1) (i2 := 2) (q1 := 0) (q2 := 1) (qs := divs C (1 + g3) most) (u := u)
    (by lia) (by lia) (by lia) (by lia) (by lia) (by lia) hn (by lia) (by simpa [divs] using lC) (divs_qs (by lia)) (uS.app [.dict (kvPut (kvPut [] 0 (.tup ((divs L (1 + g3) most).map V.int))) 1 (.tup ((divs C (1 + g3) most).map V.int)))])
  rw [hT g4 g40, hT g5 g50, hT g6 g60, hT g7 g70, hT g8 g80, hT g9 g90] at cr
  apply exI
  · unfold b_turn
    iterate 4 top_raiseB0
    with_reducible apply q_asg
    exact tk _ _ (by top_caughtB)
    top_raiseB0
    simp only [List.cons_append, List.nil_append]
    iterate 2 top_raiseB0
    with_reducible apply q_asg
    exact tm _ _ (by top_caughtB)
    repeat top_raiseB0
  · top_caughtB
theorem law_true {ns : List Int} (hl : ns.length ≤ 1000) : ∃ st', d_law [.lst (ns.map V.int)] [] = some (.bool true, st') := by
  have it := iter_rng0 (b := max 1 (min 2 (ns.length : Int))) (n := max 1 (min 2 ns.length)) (by lia) (by lia)
  obtain ⟨ρ', st', e, -⟩ := sLoop_range0 (x := "at") (b := b_turn) (I := fun _ ρ _ => ρ "script" = some (.lst (ns.map V.int))) (n := max 1 (min 2 ns.length)) (ρ := bindR ["script"] ([.lst (ns.map V.int)] ++ [])) (st := []) (by top_caughtB) (by
    intro j ρ s hj h
    exact turn hl (by lia) h)
  refine ⟨st', ?_⟩
  apply run_retE rfl
  · unfold b_law
    repeat top_raiseB0
  all_goals rfl
end
end Mine
namespace Mine
noncomputable def YP0 (_ : World) (h : Heap) : Prop := ∃ hT, obs hT = obsGood ∧ ∀ b o, hT.get? b = some o → h.get? b = some o
theorem script_rel {P : Params} {h : Heap} {W : Wd} {R : WRecords} : ∀ {ds : List WData} {vs : List Value}, WellAll P h vs ds → WShape.hasItems R ds .int = true → ∃ ns : List Int, VsRel W (ns.map V.int) vs ∧ ns.length = ds.length
  | [], _, .nil, _ => ⟨[], .nil, rfl⟩
  | d :: ds, _, .cons (v := v) a b, hi => by
    have hi' : WShape.has R d .int = true ∧ WShape.hasItems R ds .int = true := Bool.and_eq_true_iff.mp hi
    obtain ⟨ns, r, e⟩ := script_rel b hi'.2
    have h1 := hi'.1
    cases a <;> first | exact (Bool.false_ne_true h1).elim | skip
    exact ⟨_ :: ns, .cons (.int _ _) r, by simp [e]⟩
theorem walk {q : Program} {loose : List Str} {XP : (Str → Option Value) → Heap → Prop} {d : DefRec} {kwd : List (Str × Expr)} (hdn : d.name = Str.ofString "law") :
    WalkO q loose XP YP0 PySem.Challenge.rw_ok0151_01.row.toRowW d kwd fun f vs => PySem.call f vs := by
  intro w s₀ s₁ mg mb G Y a o pm cd doc dV kV ho hd hcd hD hmg hg args vals as hpre hlay hrd hwl hlo
  obtain ⟨hT, hobs, up⟩ := Y
  have P := Parts.of (congrArg Prod.snd hobs)
  let c : Cx := ⟨PySem.Challenge.pw_ok0151_01, w, s₁.heap, Kof hT, (kof_in P.all).keeps up, by
    obtain ⟨x, hx⟩ := Option.isSome_iff_exists.mp P.sys
    exact ⟨x, up _ _ hx⟩, G.T.nolimit⟩
  have B : Behind c := ⟨hT, hobs, rfl, up⟩
  have H := facts_of B
  -- the callee
  obtain ⟨mg', n', e'⟩ := of_ref B ("law", 838) (by decide +kernel)
  have ha : a = 838 := by
    rw [hdn] at hmg
    have := Heap.Ns.agree G.T.g n' (Str.ofString "law")
    rw [hmg, e'] at this
    cases this; rfl
  subst ha
  -- the script
  obtain ⟨hall, hpr⟩ := pre_splitW hpre
  obtain ⟨d0, rest, rfl, h1, h2⟩ := hasAllW_cons hall
  obtain rfl : rest = [] := by
    cases rest with
    | nil => rfl
    | cons x r => exact (Bool.false_ne_true h2).elim
  obtain ⟨ds, rfl, hit⟩ := hasW_list h1
  obtain ⟨v, vs', rfl, hv, hv'⟩ := wellAll_cons_inv hwl
  cases hv'
  have hlen : ds.length ≤ 63 := by
    have key : ∀ (R : WRecords) (b : Bool), WTm.holds R (.and (.not (.lit (.bool b))) (.lit (.bool true))) { args := [WData.list ds] } = true → b = false := fun R b h => by
      cases b with
      | false => rfl
      | true => exact (Bool.false_ne_true h).elim
    have hd := of_decide_eq_false (key PySem.Challenge.rw_ok0151_01.row.records (decide ((63 : Int) < (ds.length : Int))) hpr)
    lia
  cases hv with
  | list hl hw =>
    rename_i la vs
    obtain ⟨ns, rs, en⟩ := script_rel (W := ⟨s₁.heap.get?, []⟩) hw hit
    obtain ⟨st', el⟩ := law_true (ns := ns) (by lia)
    have iv : Inv c.h₀ ⟨s₁.heap.get?, []⟩ [] s₁.heap := ⟨fun _ _ e => e, fun _ _ e => e, rfl, List.nodup_nil, fun i a m e => by simp at e, fun i a m e => by simp at e⟩
    have rv : VsRel ⟨s₁.heap.get?, []⟩ [V.lst (ns.map V.int)] [Value.ref la] := .cons (.lst (o := { cls := .type "list", data := .seq vs.toArray }) hl rfl (by simpa using rs)) .nil
    refine call_of (c := c) (lv := 8) (A := callerA) ⟨rfl, by decide, by decide⟩ iv (s_law H) rv el fun W' v' s' i y z r => ?_
    cases r
    refine ⟨.inl ⟨.bool true, .bool true, [], rfl, fun cls => rfl, .bool true, ?_, fun _ => ⟨List.nodup_nil, fun a ha => by cases ha⟩⟩, .of_keep fun b o e => y.keep b o e (by simp), z.os, .of_eq (z.gens.trans hg)⟩
    exact postW_of (r := PySem.Challenge.rw_ok0151_01.row.toRowW) (X := true) (by rfl) (by kernel_rfl) rfl
end Mine
namespace Mine
theorem run_all' : ∀ (w : World) (os : OsState), (topRunT treeTable PySem.Challenge.pw_ok0151_01 w 11 (some (.ref 6)) 13700 ⟨T0 w.params, 11, {}, Array.mk [], boot_drawn, boot_toks, os⟩ (topStub PySem.Challenge.pw_ok0151_01)).map
      (fun s => (endOk PySem.Challenge.pw_ok0151_01 (boot_heap w.params) s.abs, openSeen q0 loose0 (importedModules PySem.Challenge.pw_ok0151_01.main.body) Xt0 true s.abs, (fun s : Shared => obs s.heap) s.abs)) = some (true, openGood q0 loose0, (fun _ : World => obsGood) w) := run_all
theorem left0 : LeftO PySem.Challenge.rw_ok0151_01.row.prog q0 loose0 Xt0 (fun s => obs s.heap) (fun _ => obsGood) 13800 :=
  left_of (p := PySem.Challenge.pw_ok0151_01) (H₀ := boot_heap) (T₀ := T0) (m₀ := 11) (ann := some (.ref 6)) (M := 13700)
    (boot_open (p := PySem.Challenge.pw_ok0151_01) (by kernel_rfl) (by kernel_rfl) (fun s => by kernel_rfl)) (fun P => by kernel_rfl) (fun w => by kernel_rfl) run_all' (by kernel_rfl)
theorem Xt0_and {s : Shared} (e : Xt0 s = true) : xlAt q0 [] s = true ∧ recOk [] s = true := Bool.and_eq_true_iff.mp (show (xlAt q0 [] s && recOk [] s) = true from e)
end Mine
theorem PySem.Challenge.cw_ok0151_01_holds : PySem.Challenge.rw_ok0151_01.Holds := by
  refine holds_law Mine.said_l fun said => ?_
  refine holds_open (r := PySem.Challenge.rw_ok0151_01.row) (q := Mine.q0) (loose := Mine.loose0) (Xt := Mine.Xt0) (XP := XL Mine.q0 []) (Yf := fun s => Mine.obs s.heap) (Ya := fun _ => Mine.obsGood) (YP := Mine.YP0) (N := 13800) Mine.left0
    (fun _ s e => ⟨s.heap, e, fun _ _ e => e⟩) (fun _ _ _ ⟨hT, e, up⟩ k => ⟨hT, e, fun b o x => k b o (up b o x)⟩)
    (fun s e => xl_of s (Mine.Xt0_and e).1) XL.keeps (by rfl) (by rfl) (by rfl) (fun s e => recFacts_of (Mine.Xt0_and e).2) (by rfl) (by first | assumption | decide +kernel) (by decide +kernel) ⟨rfl, rfl, rfl, rfl, rfl, by decide +kernel⟩ ?hw ?hc
  case hw => w_witness2
  case hc => exact Mine.walk (by rfl)
